import PyProof.Rows.All
import Wide.All
import OpenK.AllK
import Wide.FinOn
import HandS.ForMost
import HandS.ForExc
import HandS.Wide
import HandS.Gcd
import HandS.TupAny
import HandS.IsInst
import HandS.ExcInit
import HandS.ExcField
import HandS.ExcIs
import HandS.HotCalls
import HandS.Deep
import HandS.TryMany
import HandS.Codes
import HandS.StrMore
import HandS.Style
import HandS.ExcInitHot
import KE.KExcIs
import PySem.Challenge.RW_millbench_k01_ratio
section
set_option Elab.async false
set_option linter.all false
set_option maxRecDepth 100000
/-! DL: a denotational layer over HandS: trees in the place of tracked tuples, a heap of mutable objects by number. -/
namespace DL
abbrev St := L2.St
abbrev Fg := PySem.W.Frag
open PySem PySem.Spec PyProof.Rows
open L2 hiding St

inductive D where
  | non | bl (b : Bool) | int (i : Int) | str (s : Str) | tup (l : List D) | frl (l : List D) | obj (i : Nat) | ty (n : String) | exc
inductive DO where
  | lst (l : List D) | dK (kvs : List (Key × D)) | dT (kvs : List (List Key × D))
abbrev DHp := List DO
abbrev DSt := List (Option D)
structure Exn where
  cls : Str
  fs : Option (List (Str × D))
inductive R (α : Type) where
  | ok (a : α) (h : DHp) | ex (e : Exn) (h : DHp) | no
def R.bind {α β : Type} (r : R α) (k : α → DHp → R β) : R β := match r with
  | .ok a h => k a h
  | .ex e h => .ex e h
  | .no => .no
theorem R.bind_ok {α β : Type} (a : α) (h : DHp) (k : α → DHp → R β) : (R.ok a h).bind k = k a h := rfl
theorem R.bind_ex {α β : Type} (e : Exn) (h : DHp) (k : α → DHp → R β) : (R.ex e h).bind k = R.ex e h := rfl
theorem R.bind_no {α β : Type} (k : α → DHp → R β) : (R.no).bind k = R.no := rfl
inductive SR where
  | nx (sd : DSt) (h : DHp) | rt (d : D) (h : DHp) | bk (sd : DSt) (h : DHp) | ct (sd : DSt) (h : DHp) | ex (e : Exn) (sd : DSt) (h : DHp) | no

/-! ### the relation -/
abbrev strMax : Nat := 1000000
theorem strMax_line {n : Nat} (h : n ≤ strMax) : n ≤ sizeLine := Nat.le_trans h (by decide)
/-- a text that is not too long, of code points -/
def sOk (x : Str) : Prop := x.length ≤ strMax ∧ PySem.PyData.strOk x = true
instance (x : Str) : Decidable (sOk x) := by unfold sOk; infer_instance
theorem sOk.line {x : Str} (h : sOk x) : x.length ≤ sizeLine := strMax_line h.1
/-- a list that stays as it is -/
def FzL (K : Fg) (H : Hp) (a : Addr) (xs : List V) : Prop :=
  (∃ o, H a = some (.frz o (.lst xs))) ∨
    ∃ (o : Obj) (its : Array Value) (n : Nat), K.lookup a = some o ∧ o.cls = .type "list" ∧ o.dict = none ∧ o.data = .seq its n ∧ its.size ≤ sizeLine ∧ Vals xs its.toList
theorem FzL.sq {K : Fg} {H : Hp} {a : Addr} {xs : List V} (h : FzL K H a xs) : SqL K H a xs := by
  rcases h with h | h
  · exact .inl (.inr h)
  · exact .inr h
mutual
inductive Dn (K : Fg) (μ : List Addr) (H : Hp) : V → D → Prop
  | non : Dn K μ H .non .non
  | bl (b : Bool) : Dn K μ H (.bl b) (.bl b)
  | int (i : Int) : Dn K μ H (.int i) (.int i)
  | str (x : Str) : sOk x → Dn K μ H (.str x) (.str x)
  | tup {a : Addr} {xs : List V} {ds : List D} : SqT K H a xs → DnL K μ H xs ds → ds.length ≤ sizeLine → Dn K μ H (.ref a) (.tup ds)
  | frl {a : Addr} {xs : List V} {ds : List D} : FzL K H a xs → DnL K μ H xs ds → ds.length ≤ sizeLine → Dn K μ H (.ref a) (.frl ds)
  | obj {i : Nat} {a : Addr} : μ[i]? = some a → Dn K μ H (.ref a) (.obj i)
  | ty (n : String) : Dn K μ H (.ty n) (.ty n)
  | exc (v : V) : Dn K μ H v .exc
inductive DnL (K : Fg) (μ : List Addr) (H : Hp) : List V → List D → Prop
  | nil : DnL K μ H [] []
  | cons {v : V} {vs : List V} {d : D} {ds : List D} : Dn K μ H v d → DnL K μ H vs ds → DnL K μ H (v :: vs) (d :: ds)
end
inductive KD {κ : Type} (K : Fg) (μ : List Addr) (H : Hp) : List (κ × V) → List (κ × D) → Prop
  | nil : KD K μ H [] []
  | cons {k : κ} {v : V} {vs : List (κ × V)} {d : D} {ds : List (κ × D)} : Dn K μ H v d → KD K μ H vs ds → KD K μ H ((k, v) :: vs) ((k, d) :: ds)
inductive StR (K : Fg) (μ : List Addr) (H : Hp) : St → DSt → Prop
  | nil : StR K μ H [] []
  | gone {x : Option V} {σ : St} {sd : DSt} : StR K μ H σ sd → StR K μ H (x :: σ) (none :: sd)
  | cons {v : V} {d : D} {σ : St} {sd : DSt} : Dn K μ H v d → StR K μ H σ sd → StR K μ H (some v :: σ) (some d :: sd)
def DOk (K : Fg) (μ : List Addr) (H : Hp) (a : Addr) : DO → Prop
  | .lst ds => ∃ xs, H a = some (.lst xs) ∧ DnL K μ H xs ds ∧ ds.length ≤ sizeLine
  | .dK kvs => ∃ vs, H a = some (.dK vs) ∧ KD K μ H vs kvs ∧ kvs.length ≤ sizeLine
  | .dT kvs => ∃ vs, H a = some (.dT vs) ∧ KD K μ H vs kvs ∧ kvs.length ≤ sizeLine
structure HR (K : Fg) (μ : List Addr) (H : Hp) (h : DHp) : Prop where
  len : μ.length = h.length
  nd : μ.Nodup
  ob : ∀ (i : Nat) (o : DO), h[i]? = some o → ∃ a, μ[i]? = some a ∧ DOk K μ H a o
structure Ext (μ : List Addr) (H : Hp) (μ' : List Addr) (H' : Hp) : Prop where
  pre : ∃ ρ, μ' = μ ++ ρ
  fr : ∀ a o, H a = some o → a ∉ μ → H' a = some o
  new : ∀ a, a ∈ μ' → a ∉ μ → H a = none
theorem Ext.refl (μ : List Addr) (H : Hp) : Ext μ H μ H := ⟨⟨[], by simp⟩, fun _ _ h _ => h, fun a h n => absurd h n⟩
theorem Ext.trans {μ μ1 μ2 : List Addr} {H H1 H2 : Hp} (e : Ext μ H μ1 H1) (f : Ext μ1 H1 μ2 H2) : Ext μ H μ2 H2 := by
  obtain ⟨⟨ρ, e1⟩, e2, e3⟩ := e
  obtain ⟨⟨τ, f1⟩, f2, f3⟩ := f
  have n1 : ∀ a o, H a = some o → a ∉ μ → a ∉ μ1 := fun a o h n z => by
    have := e3 a z n
    rw [h] at this; cases this
  refine ⟨⟨ρ ++ τ, by rw [f1, e1, List.append_assoc]⟩, fun a o h n => f2 a o (e2 a o h n) (n1 a o h n), fun a h n => ?_⟩
  cases q : H a with
  | none => rfl
  | some o =>
    have z := f3 a h (n1 a o q n)
    rw [e2 a o q n] at z; cases z
theorem Ext.get {μ μ' : List Addr} {H H' : Hp} (e : Ext μ H μ' H') {i : Nat} {a : Addr} (h : μ[i]? = some a) : μ'[i]? = some a := by
  obtain ⟨ρ, rfl⟩ := e.pre
  have hi : i < μ.length := by
    rcases Nat.lt_or_ge i μ.length with z | z
    · exact z
    · rw [List.getElem?_eq_none z] at h; cases h
  rw [List.getElem?_append_left hi]; exact h
section
variable {K : Fg} {μ μ' : List Addr} {H H' : Hp}
theorem DOk.mu {a : Addr} {o : DO} (h : DOk K μ H a o) : Mut (H a) := by
  cases o with
  | lst ds => obtain ⟨_, e, _⟩ := h; rw [e]; trivial
  | dK ds => obtain ⟨_, e, _⟩ := h; rw [e]; trivial
  | dT ds => obtain ⟨_, e, _⟩ := h; rw [e]; trivial
theorem HR.mu {h : DHp} (r : HR K μ H h) {a : Addr} (ha : a ∈ μ) : Mut (H a) := by
  obtain ⟨i, hi, e⟩ := List.mem_iff_getElem.mp ha
  have hi' : i < h.length := by rw [← r.len]; exact hi
  obtain ⟨b, e1, e2⟩ := r.ob i h[i] (List.getElem?_eq_getElem hi')
  rw [List.getElem?_eq_getElem hi] at e1
  cases e1
  rw [← e]; exact e2.mu
theorem sqT_ext (e : Ext μ H μ' H') (m : ∀ a ∈ μ, Mut (H a)) {a : Addr} {xs : List V} (h : SqT K H a xs) : SqT K H' a xs := by
  have nm : ∀ u, H a = some u → ¬ Mut (some u) → a ∉ μ := fun u q n z => by
    have := m a z
    rw [q] at this; exact n this
  rcases h with (h | ⟨o, h⟩) | h
  · exact .inl (.inl (e.fr _ _ h (nm _ h fun z => z)))
  · exact .inl (.inr ⟨o, e.fr _ _ h (nm _ h fun z => z)⟩)
  · exact .inr h
theorem fzL_ext (e : Ext μ H μ' H') (m : ∀ a ∈ μ, Mut (H a)) {a : Addr} {xs : List V} (h : FzL K H a xs) : FzL K H' a xs := by
  rcases h with ⟨o, h⟩ | h
  · exact .inl ⟨o, e.fr _ _ h fun z => by
      have := m a z
      rw [h] at this; exact this⟩
  · exact .inr h
mutual
theorem Dn.ext (e : Ext μ H μ' H') (m : ∀ a ∈ μ, Mut (H a)) : ∀ {v : V} {d : D}, Dn K μ H v d → Dn K μ' H' v d
  | _, _, .non => .non
  | _, _, .bl b => .bl b
  | _, _, .int i => .int i
  | _, _, .str x h => .str x h
  | _, _, .tup h l z => .tup (sqT_ext e m h) (DnL.ext e m l) z
  | _, _, .frl h l z => .frl (fzL_ext e m h) (DnL.ext e m l) z
  | _, _, .obj h => .obj (e.get h)
  | _, _, .ty n => .ty n
  | _, _, .exc v => .exc v
theorem DnL.ext (e : Ext μ H μ' H') (m : ∀ a ∈ μ, Mut (H a)) : ∀ {v : List V} {d : List D}, DnL K μ H v d → DnL K μ' H' v d
  | _, _, .nil => .nil
  | _, _, .cons h t => .cons (Dn.ext e m h) (DnL.ext e m t)
end
theorem KD.ext {κ : Type} (e : Ext μ H μ' H') (m : ∀ a ∈ μ, Mut (H a)) {v : List (κ × V)} {d : List (κ × D)} (h : KD K μ H v d) : KD K μ' H' v d := by
  induction h with
  | nil => exact .nil
  | cons h t ih => exact .cons (h.ext e m) ih
theorem StR.ext (e : Ext μ H μ' H') (m : ∀ a ∈ μ, Mut (H a)) {σ : St} {sd : DSt} (h : StR K μ H σ sd) : StR K μ' H' σ sd := by
  induction h with
  | nil => exact .nil
  | gone t ih => exact .gone ih
  | cons h t ih => exact .cons (h.ext e m) ih
theorem DnL.length {vs : List V} {ds : List D} (h : DnL K μ H vs ds) : vs.length = ds.length := by
  induction ds generalizing vs with
  | nil => cases h; rfl
  | cons d ds ih => cases h with | cons a t => simp [ih t]
theorem DnL.get {vs : List V} {ds : List D} (h : DnL K μ H vs ds) {i : Nat} {d : D} (e : ds[i]? = some d) : ∃ v, vs[i]? = some v ∧ Dn K μ H v d := by
  induction ds generalizing vs i with
  | nil => simp at e
  | cons x ds ih =>
    cases h with
    | cons a t =>
      cases i with
      | zero => simp at e; subst e; exact ⟨_, by simp, a⟩
      | succ i => obtain ⟨v, e1, e2⟩ := ih t (by simpa using e); exact ⟨v, by simpa using e1, e2⟩
theorem DnL.get' {vs : List V} {ds : List D} (h : DnL K μ H vs ds) {i : Nat} {v : V} (e : vs[i]? = some v) : ∃ d, ds[i]? = some d ∧ Dn K μ H v d := by
  induction ds generalizing vs i with
  | nil => cases h; simp at e
  | cons x ds ih =>
    cases h with
    | cons a t =>
      cases i with
      | zero => simp at e; subst e; exact ⟨_, by simp, a⟩
      | succ i => obtain ⟨d, e1, e2⟩ := ih t (by simpa using e); exact ⟨d, by simpa using e1, e2⟩
theorem DnL.app {vs ws : List V} {ds es : List D} (h : DnL K μ H vs ds) (h2 : DnL K μ H ws es) : DnL K μ H (vs ++ ws) (ds ++ es) := by
  induction ds generalizing vs with
  | nil => cases h; exact h2
  | cons x ds ih => cases h with | cons a t => exact .cons a (ih t)
theorem DnL.take {vs : List V} {ds : List D} (n : Nat) (h : DnL K μ H vs ds) : DnL K μ H (vs.take n) (ds.take n) := by
  induction ds generalizing vs n with
  | nil => cases h; simp; exact .nil
  | cons x ds ih =>
    cases h with
    | cons a t =>
      cases n with
      | zero => exact .nil
      | succ n => exact .cons a (ih n t)
theorem DnL.drop {vs : List V} {ds : List D} (n : Nat) (h : DnL K μ H vs ds) : DnL K μ H (vs.drop n) (ds.drop n) := by
  induction ds generalizing vs n with
  | nil => cases h; simp; exact .nil
  | cons x ds ih =>
    cases h with
    | cons a t =>
      cases n with
      | zero => exact .cons a t
      | succ n => simpa using ih n t
theorem DnL.set {vs : List V} {ds : List D} {v : V} {d : D} (i : Nat) (h : DnL K μ H vs ds) (r : Dn K μ H v d) : DnL K μ H (vs.set i v) (ds.set i d) := by
  induction ds generalizing vs i with
  | nil => cases h; simp; exact .nil
  | cons x ds ih =>
    cases h with
    | cons a t =>
      cases i with
      | zero => exact .cons r t
      | succ n => exact .cons a (ih n t)
theorem DnL.rev {vs : List V} {ds : List D} (h : DnL K μ H vs ds) : DnL K μ H vs.reverse ds.reverse := by
  induction ds generalizing vs with
  | nil => cases h; exact .nil
  | cons x ds ih => cases h with | cons a t => rw [List.reverse_cons, List.reverse_cons]; exact (ih t).app (.cons a .nil)
theorem DnL.dropLast {vs : List V} {ds : List D} (h : DnL K μ H vs ds) : DnL K μ H vs.dropLast ds.dropLast := by
  rw [List.dropLast_eq_take, List.dropLast_eq_take, h.length]; exact h.take _
theorem StR.len {σ : St} {sd : DSt} (h : StR K μ H σ sd) : σ.length = sd.length := by
  induction h with
  | nil => rfl
  | gone t ih => simp [ih]
  | cons h t ih => simp [ih]
theorem StR.get {σ : St} {sd : DSt} (h : StR K μ H σ sd) {i : Nat} {d : D} (e : sd[i]? = some (some d)) : ∃ v, σ[i]? = some (some v) ∧ Dn K μ H v d := by
  induction h generalizing i with
  | nil => simp at e
  | gone t ih =>
    cases i with
    | zero => simp at e
    | succ i => obtain ⟨v, e1, e2⟩ := ih (i := i) (by simpa using e); exact ⟨v, by simpa using e1, e2⟩
  | cons a t ih =>
    cases i with
    | zero => simp at e; subst e; exact ⟨_, by simp, a⟩
    | succ i => obtain ⟨v, e1, e2⟩ := ih (i := i) (by simpa using e); exact ⟨v, by simpa using e1, e2⟩
theorem StR.set {σ : St} {sd : DSt} (h : StR K μ H σ sd) (i : Nat) {v : V} {d : D} (r : Dn K μ H v d) : StR K μ H (σ.set i (some v)) (sd.set i (some d)) := by
  induction h generalizing i with
  | nil => exact .nil
  | gone t ih =>
    cases i with
    | zero => exact .cons r t
    | succ i => exact .gone (ih i)
  | cons a t ih =>
    cases i with
    | zero => exact .cons r t
    | succ i => exact .cons a (ih i)
theorem StR.del {σ : St} {sd : DSt} (h : StR K μ H σ sd) (i : Nat) (x : Option V) : StR K μ H (σ.set i x) (sd.set i none) := by
  induction h generalizing i with
  | nil => exact .nil
  | gone t ih =>
    cases i with
    | zero => exact .gone t
    | succ i => exact .gone (ih i)
  | cons a t ih =>
    cases i with
    | zero => exact .gone t
    | succ i => exact .cons a (ih i)
/-- a value's tree, a new tuple at p -/
theorem ext_new {h : DHp} (r : HR K μ H h) {p : Addr} (np : H p = none) (o : HO) : Ext μ H μ (upd H p o) :=
  ⟨⟨[], by simp⟩, fun a u e _ => by rw [upd_ne (ne_of_none e np)]; exact e, fun a z n => absurd z n⟩
theorem DOk.ext {a : Addr} {o : DO} (e : Ext μ H μ' H') (m : ∀ a ∈ μ, Mut (H a)) (hs : H' a = H a) (h : DOk K μ H a o) : DOk K μ' H' a o := by
  cases o with
  | lst ds => obtain ⟨xs, q, l, z⟩ := h; exact ⟨xs, by rw [hs]; exact q, l.ext e m, z⟩
  | dK ds => obtain ⟨xs, q, l, z⟩ := h; exact ⟨xs, by rw [hs]; exact q, l.ext e m, z⟩
  | dT ds => obtain ⟨xs, q, l, z⟩ := h; exact ⟨xs, by rw [hs]; exact q, l.ext e m, z⟩
/-- the objects stay as they stand -/
theorem HR.ext {h : DHp} (r : HR K μ H h) (e : Ext μ H μ H') (hs : ∀ a ∈ μ, H' a = H a) : HR K μ H' h :=
  ⟨r.len, r.nd, fun i o q => by
    obtain ⟨a, e1, e2⟩ := r.ob i o q
    exact ⟨a, e1, e2.ext e (fun a => r.mu) (hs a (List.mem_of_getElem? e1))⟩⟩
theorem HR.laid {h : DHp} (r : HR K μ H h) {p : Addr} (np : H p = none) (o : HO) : HR K μ (upd H p o) h :=
  r.ext (ext_new r np o) fun a ha => upd_ne fun z => by
    have := r.mu ha
    rw [z, np] at this; exact this
/-- a new mutable object -/
theorem HR.push {h : DHp} (r : HR K μ H h) {p : Addr} (np : H p = none) {o : HO} {x : DO} (mo : Mut (some o)) (ok : DOk K (μ ++ [p]) (upd H p o) p x) : Ext μ H (μ ++ [p]) (upd H p o) ∧ HR K (μ ++ [p]) (upd H p o) (h ++ [x]) := by
  have npm : p ∉ μ := fun z => by
    have := r.mu z
    rw [np] at this; exact this
  have e : Ext μ H (μ ++ [p]) (upd H p o) := ⟨⟨[p], rfl⟩, fun a u e _ => by rw [upd_ne (ne_of_none e np)]; exact e, fun a z n => by
    rcases List.mem_append.mp z with z | z
    · exact absurd z n
    · rw [List.mem_singleton.mp z]; exact np⟩
  refine ⟨e, by simp [r.len], ?_, fun i y q => ?_⟩
  · rw [List.nodup_append]
    exact ⟨r.nd, by simp, fun a ha b hb z => by rw [List.mem_singleton.mp hb] at z; exact npm (z ▸ ha)⟩
  · rcases Nat.lt_or_ge i h.length with z | z
    · rw [List.getElem?_append_left z] at q
      obtain ⟨a, e1, e2⟩ := r.ob i y q
      exact ⟨a, e.get e1, e2.ext e (fun a => r.mu) (upd_ne fun w => by subst w; exact npm (List.mem_of_getElem? e1))⟩
    · rw [List.getElem?_append_right z] at q
      have i0 : i - h.length = 0 := by
        rcases Nat.eq_zero_or_pos (i - h.length) with w | w
        · exact w
        · rw [List.getElem?_eq_none (by simp; omega)] at q; cases q
      rw [i0] at q
      simp at q
      subst q
      refine ⟨p, ?_, ok⟩
      rw [List.getElem?_append_right (by rw [r.len]; exact z), r.len, i0]; rfl
theorem nd_get {l : List Addr} (nd : l.Nodup) {i j : Nat} {a : Addr} (h1 : l[i]? = some a) (h2 : l[j]? = some a) : i = j := by
  have hi : i < l.length := by
    rcases Nat.lt_or_ge i l.length with z | z
    · exact z
    · rw [List.getElem?_eq_none z] at h1; cases h1
  exact (List.getElem?_inj hi nd).mp (h1.trans h2.symm)
/-- a mutable object is written -/
theorem HR.wr {h : DHp} (r : HR K μ H h) {i : Nat} {a : Addr} (hi : μ[i]? = some a) {o : HO} {x : DO} (ok : DOk K μ (upd H a o) a x) : Ext μ H μ (upd H a o) ∧ HR K μ (upd H a o) (h.set i x) := by
  have ha : a ∈ μ := List.mem_of_getElem? hi
  have e : Ext μ H μ (upd H a o) := ⟨⟨[], by simp⟩, fun b u q n => (upd_ne (fun z : b = a => n (by rw [z]; exact ha))).trans q, fun b z n => absurd z n⟩
  refine ⟨e, by simp [r.len], r.nd, fun j y q => ?_⟩
  by_cases hj : i = j
  · subst hj
    have hl : i < h.length := by
      rw [← r.len]
      rcases Nat.lt_or_ge i μ.length with z | z
      · exact z
      · rw [List.getElem?_eq_none z] at hi; cases hi
    rw [List.getElem?_set_self hl] at q
    cases q
    exact ⟨a, hi, ok⟩
  · rw [List.getElem?_set_ne hj] at q
    obtain ⟨b, e1, e2⟩ := r.ob j y q
    refine ⟨b, e1, e2.ext e (fun a => r.mu) (upd_ne fun z => ?_)⟩
    subst z
    exact hj (nd_get r.nd hi e1)
end
/-! ### results -/
structure Pm where
  ct : Str → Addr
  W : WX
  S : St → List Addr → Hp → Prop
  st : ∀ {σ : St} {μ μ' : List Addr} {H H' : Hp}, Ext μ H μ' H' → (∀ a ∈ μ, Mut (H a)) → S σ μ H → S σ μ' H'
inductive FR (K : Fg) (μ : List Addr) (H : Hp) : List (Str × V) → List (Str × D) → Prop
  | nil : FR K μ H [] []
  | cons {k : Str} {v : V} {vs : List (Str × V)} {d : D} {ds : List (Str × D)} : Dn K μ H v d → FR K μ H vs ds → FR K μ H ((k, v) :: vs) ((k, d) :: ds)
def ExR (K : Fg) (ct : Str → Addr) (μ : List Addr) (H : Hp) (e : Exn) (cls : Value) (d : Option Addr) : Prop :=
  cls = .ref (ct e.cls) ∧ match e.fs with
    | none => d = none
    | some fs => ∃ dd xs, d = some dd ∧ H dd = some (.xd xs) ∧ FR K μ H xs fs
/-- what is wanted behind an expression -/
def Pst {α β : Type} (K : Fg) (p : Pm) (μ : List Addr) (H : Hp) (σ : St) (rel : List Addr → Hp → β → α → Prop) (r : R α) (Q : β → Hp → Prop) : Prop := match r with
  | .ok a h' => ∀ μ' v H', Ext μ H μ' H' → HR K μ' H' h' → rel μ' H' v a → Q v H'
  | .ex e h' => ∀ μ' cls dd H', Ext μ H μ' H' → HR K μ' H' h' → ExR K p.ct μ' H' e cls dd → p.W cls dd σ H'
  | .no => False
def SPst (K : Fg) (p : Pm) (μ : List Addr) (H : Hp) (r : SR) (E : Ends) : Prop := match r with
  | .nx sd h' => ∀ μ' σ H', Ext μ H μ' H' → HR K μ' H' h' → StR K μ' H' σ sd → p.S σ μ' H' → E.nx σ H'
  | .bk sd h' => ∀ μ' σ H', Ext μ H μ' H' → HR K μ' H' h' → StR K μ' H' σ sd → p.S σ μ' H' → E.bk σ H'
  | .ct sd h' => ∀ μ' σ H', Ext μ H μ' H' → HR K μ' H' h' → StR K μ' H' σ sd → p.S σ μ' H' → E.ct σ H'
  | .rt d h' => ∀ μ' v H', Ext μ H μ' H' → HR K μ' H' h' → Dn K μ' H' v d → E.rt v H'
  | .ex e sd h' => ∀ μ' cls dd σ H', Ext μ H μ' H' → HR K μ' H' h' → StR K μ' H' σ sd → p.S σ μ' H' → ExR K p.ct μ' H' e cls dd → p.W cls dd σ H'
  | .no => False
abbrev relB : List Addr → Hp → Bool → Bool → Prop := fun _ _ x y => x = y
section
variable {K : Fg} {p : Pm} {μ μ' : List Addr} {H H' : Hp} {σ : St} {α β γ δ : Type}
theorem Pst.ext {rel : List Addr → Hp → β → α → Prop} {r : R α} {Q : β → Hp → Prop} (e : Ext μ H μ' H') (h : Pst K p μ H σ rel r Q) : Pst K p μ' H' σ rel r Q := by
  cases r with
  | ok a h' => exact fun μ2 v H2 e2 => h μ2 v H2 (e.trans e2)
  | ex x h' => exact fun μ2 c d H2 e2 => h μ2 c d H2 (e.trans e2)
  | no => exact h
theorem SPst.ext {r : SR} {E : Ends} (e : Ext μ H μ' H') (h : SPst K p μ H r E) : SPst K p μ' H' r E := by
  cases r with
  | nx sd h' => exact fun μ2 v H2 e2 => h μ2 v H2 (e.trans e2)
  | bk sd h' => exact fun μ2 v H2 e2 => h μ2 v H2 (e.trans e2)
  | ct sd h' => exact fun μ2 v H2 e2 => h μ2 v H2 (e.trans e2)
  | rt d h' => exact fun μ2 v H2 e2 => h μ2 v H2 (e.trans e2)
  | ex x sd h' => exact fun μ2 c d v H2 e2 => h μ2 c d v H2 (e.trans e2)
  | no => exact h
theorem Pst.imp {rel : List Addr → Hp → β → α → Prop} {r : R α} {Q Q' : β → Hp → Prop} (h : Pst K p μ H σ rel r Q) (i : ∀ v H', Q v H' → Q' v H') : Pst K p μ H σ rel r Q' := by
  cases r with
  | ok a h' => exact fun μ2 v H2 e2 hr hv => i _ _ (h μ2 v H2 e2 hr hv)
  | ex x h' => exact h
  | no => exact h
/-- the first of two steps -/
theorem Pst.fst {rel : List Addr → Hp → β → α → Prop} {rel' : List Addr → Hp → δ → γ → Prop} {r : R α} {k : α → DHp → R γ} {Q : δ → Hp → Prop} (h : Pst K p μ H σ rel' (r.bind k) Q) :
    Pst K p μ H σ rel r fun x H1 => ∃ μ1 h1 a, Ext μ H μ1 H1 ∧ HR K μ1 H1 h1 ∧ rel μ1 H1 x a ∧ Pst K p μ1 H1 σ rel' (k a h1) Q := by
  cases r with
  | ok a h' => exact fun μ1 v H1 e hr hv => ⟨μ1, h', a, e, hr, hv, Pst.ext e h⟩
  | ex x h' => exact h
  | no => exact h
/-- an expression, then a statement's end -/
def sbind {α : Type} (r : R α) (sd : DSt) (k : α → DHp → SR) : SR := match r with
  | .ok a h => k a h
  | .ex e h => .ex e sd h
  | .no => .no
theorem SPst.fst {rel : List Addr → Hp → β → α → Prop} {r : R α} {sd : DSt} {k : α → DHp → SR} {E : Ends} (hs : StR K μ H σ sd) (m : ∀ a ∈ μ, Mut (H a)) (hS : p.S σ μ H) (h : SPst K p μ H (sbind r sd k) E) :
    Pst K p μ H σ rel r fun x H1 => ∃ μ1 h1 a, Ext μ H μ1 H1 ∧ HR K μ1 H1 h1 ∧ rel μ1 H1 x a ∧ SPst K p μ1 H1 (k a h1) E := by
  cases r with
  | ok a h' => exact fun μ1 v H1 e hr hv => ⟨μ1, h', a, e, hr, hv, SPst.ext e h⟩
  | ex x h' => exact fun μ1 c d H1 e hr hx => h μ1 c d σ H1 e hr (hs.ext e m) (p.st e m hS) hx
  | no => exact h
end
/-! ### readings, judgements -/
def rdg {α β : Type} (K : Fg) (p : Pm) (rel : List Addr → Hp → β → α → Prop) (f : DSt → DHp → R α) : St → Hp → (β → Hp → Prop) → Prop :=
  fun σ H Q => ∃ μ sd h, StR K μ H σ sd ∧ p.S σ μ H ∧ HR K μ H h ∧ Pst K p μ H σ rel (f sd h) Q
def rdgS (K : Fg) (p : Pm) (f : DSt → DHp → SR) : TS := fun E σ H => ∃ μ sd h, StR K μ H σ sd ∧ p.S σ μ H ∧ HR K μ H h ∧ SPst K p μ H (f sd h) E
structure DE (p : Pm) (X : Cx) (e : Expr) (f : DSt → DHp → R D) : Prop where
  pe : PE X e (rdg X.K p (Dn X.K) f)
structure DT (p : Pm) (X : Cx) (e : Expr) (f : DSt → DHp → R Bool) : Prop where
  pt : PT X e (rdg X.K p relB f)
structure DW (p : Pm) (X : Cx) (e : Expr) (f : DSt → DHp → R Bool) : Prop where
  pw : PW X e (rdg X.K p relB f)
structure DA (p : Pm) (X : Cx) (es : List Expr) (f : DSt → DHp → R (List D)) : Prop where
  pa : PA X es (rdg X.K p (DnL X.K) f)
structure DS (p : Pm) (X : Cx) (st : Stmt) (f : DSt → DHp → SR) : Prop where
  ps : PS X st (rdgS X.K p f)
structure DSs (p : Pm) (X : Cx) (st : List Stmt) (f : DSt → DHp → SR) : Prop where
  ps : PSs X st (rdgS X.K p f)
section
variable {X : Cx} {p : Pm} {e : Expr}
theorem _root_.L2.PE.con {t t' : TE} (h : PE X e t) (i : ∀ σ H Q, t' σ H Q → t σ H Q) : PE X e t' := ⟨fun pins s σ H Q I q => h.run pins s σ H Q I (i _ _ _ q)⟩
theorem _root_.L2.PT.con {t t' : TT} (h : PT X e t) (i : ∀ σ H Q, t' σ H Q → t σ H Q) : PT X e t' := ⟨fun pins s σ H Q I q => h.run pins s σ H Q I (i _ _ _ q)⟩
theorem _root_.L2.PW.con {t t' : TT} (h : PW X e t) (i : ∀ σ H Q, t' σ H Q → t σ H Q) : PW X e t' := ⟨fun whole pins s σ H Q I q => h.run whole pins s σ H Q I (i _ _ _ q)⟩
theorem _root_.L2.PA.con {es : List Expr} {t t' : TA} (h : PA X es t) (i : ∀ σ H Q, t' σ H Q → t σ H Q) : PA X es t' := ⟨fun pos pins s σ H Q I q => h.run pos pins s σ H Q I (i _ _ _ q)⟩
theorem _root_.L2.PS.con {st : Stmt} {t t' : TS} (h : PS X st t) (i : ∀ E σ H, t' E σ H → t E σ H) : PS X st t' := ⟨fun pins s σ H E I q => h.run pins s σ H E I (i _ _ _ q)⟩
theorem _root_.L2.PSs.con {st : List Stmt} {t t' : TS} (h : PSs X st t) (i : ∀ E σ H, t' E σ H → t E σ H) : PSs X st t' := ⟨fun pins s σ H E I q => h.run pins s σ H E I (i _ _ _ q)⟩
end
end DL
end

section
set_option Elab.async false
set_option linter.all false
set_option maxRecDepth 100000
/-! DL2: expressions. -/
namespace DL
open PySem PySem.Spec PyProof.Rows
open L2 hiding St
section
variable {α β : Type}
/-- what is wanted behind an operation on values -/
def VPst (K : Fg) (μ : List Addr) (H : Hp) (r : R D) (Q : VK) : Prop := match r with
  | .ok d h' => ∀ μ' v H', Ext μ H μ' H' → HR K μ' H' h' → Dn K μ' H' v d → Q v H'
  | _ => False
end
def rD (K : Fg) (g : D → D → DHp → R D) : R2 := fun x y H Q => ∃ μ h d1 d2, HR K μ H h ∧ Dn K μ H x d1 ∧ Dn K μ H y d2 ∧ VPst K μ H (g d1 d2 h) Q
def rU1 (K : Fg) (g : D → DHp → R D) : V → Hp → VK → Prop := fun x H Q => ∃ μ h d1, HR K μ H h ∧ Dn K μ H x d1 ∧ VPst K μ H (g d1 h) Q
def rDL (K : Fg) (g : List D → DHp → R D) : List V → Hp → VK → Prop := fun xs H Q => ∃ μ h ds, HR K μ H h ∧ DnL K μ H xs ds ∧ VPst K μ H (g ds h) Q
section
variable {K : Fg} {p : Pm} {μ μ' : List Addr} {H H' : Hp} {σ : St} {h : DHp} {Q : VK}
theorem VPst.now {d : D} {v : V} (q : VPst K μ H (.ok d h) Q) (r : HR K μ H h) (n : Dn K μ H v d) : Q v H := q μ v H (.refl _ _) r n
theorem VPst.ext {r : R D} (e : Ext μ H μ' H') (q : VPst K μ H r Q) : VPst K μ' H' r Q := by
  cases r with
  | ok d h' => exact fun μ2 v H2 e2 => q μ2 v H2 (e.trans e2)
  | ex x h' => exact q
  | no => exact q
theorem VPst.new_tup {xs : List V} {ds : List D} (q : VPst K μ H (.ok (.tup ds) h) Q) (r : HR K μ H h) (l : DnL K μ H xs ds) (z : ds.length ≤ sizeLine) {a : Addr} (na : H a = none) : Q (.ref a) (upd H a (.tup xs)) :=
  q μ _ _ (ext_new r na _) (r.laid na _) (.tup (.of upd_same) (l.ext (ext_new r na _) fun _ => r.mu) z)
theorem VPst.new_lst {xs : List V} {ds : List D} (q : VPst K μ H (.ok (.obj h.length) (h ++ [.lst ds])) Q) (r : HR K μ H h) (l : DnL K μ H xs ds) (z : ds.length ≤ sizeLine) {a : Addr} (na : H a = none) : Q (.ref a) (upd H a (.lst xs)) := by
  have e : Ext μ H (μ ++ [a]) (upd H a (.lst xs)) := ⟨⟨[a], rfl⟩, fun b u e _ => by rw [upd_ne (ne_of_none e na)]; exact e, fun b z n => by
    rcases List.mem_append.mp z with z | z
    · exact absurd z n
    · rw [List.mem_singleton.mp z]; exact na⟩
  obtain ⟨_, r'⟩ := r.push (o := .lst xs) (x := .lst ds) na trivial ⟨xs, upd_same, l.ext e fun _ => r.mu, z⟩
  exact q _ _ _ e r' (.obj (by rw [List.getElem?_append_right (by rw [r.len]; exact Nat.le_refl _), r.len]; simp))
theorem HR.lst (r : HR K μ H h) {i : Nat} {ds : List D} (e : h[i]? = some (.lst ds)) : ∃ a xs, μ[i]? = some a ∧ H a = some (.lst xs) ∧ DnL K μ H xs ds ∧ ds.length ≤ sizeLine := by
  obtain ⟨a, e1, xs, e2, e3, e4⟩ := r.ob i _ e
  exact ⟨a, xs, e1, e2, e3, e4⟩
end
/-! ### combinators -/
def dVar (i : Nat) : DSt → DHp → R D := fun sd h => match sd[i]? with
  | some (some d) => .ok d h
  | _ => .no
def dC (d : D) : DSt → DHp → R D := fun _ h => .ok d h
def dUn (g : D → DHp → R D) (fa : DSt → DHp → R D) : DSt → DHp → R D := fun sd h => (fa sd h).bind g
def dBin (g : D → D → DHp → R D) (fa fb : DSt → DHp → R D) : DSt → DHp → R D := fun sd h => (fa sd h).bind fun a h1 => (fb sd h1).bind fun b h2 => g a b h2
def toB : D → DHp → R Bool
  | .bl b, h => .ok b h
  | _, _ => .no
def dTb (f : DSt → DHp → R D) : DSt → DHp → R Bool := fun sd h => (f sd h).bind toB
def dNil : DSt → DHp → R (List D) := fun _ h => .ok [] h
def dCons (f : DSt → DHp → R D) (g : DSt → DHp → R (List D)) : DSt → DHp → R (List D) := fun sd h => (f sd h).bind fun d h1 => (g sd h1).bind fun ds h2 => .ok (d :: ds) h2
def dArgs (g : List D → DHp → R D) (f : DSt → DHp → R (List D)) : DSt → DHp → R D := fun sd h => (f sd h).bind g
section
variable {X : Cx} {p : Pm} {e a b c : Expr} {es : List Expr} {fa fb fc : DSt → DHp → R D} {fs : DSt → DHp → R (List D)} {pos : Pos}
theorem de_con (d : D) {v : V} (he : PE X e (tC v)) (hn : ∀ K μ H, Dn K μ H v d) : DE p X e (dC d) := ⟨he.con fun σ H Q q => by
  obtain ⟨μ, sd, h, hs, hS, hr, q⟩ := q
  exact q μ v H (.refl _ _) hr (hn _ _ _)⟩
theorem de_int {i j} : DE p X (.Constant (.int i) j pos) (dC (.int i)) := de_con _ pe_int fun _ _ _ => .int _
theorem de_bl {i j} : DE p X (.Constant (.bool i) j pos) (dC (.bl i)) := de_con _ pe_bl fun _ _ _ => .bl _
theorem de_non {j} : DE p X (.Constant .none j pos) (dC .non) := de_con _ pe_non fun _ _ _ => .non
theorem de_str {x j} (hx : sOk x := by decide +kernel) : DE p X (.Constant (.str x) j pos) (dC (.str x)) := de_con _ pe_str fun _ _ _ => .str _ hx
theorem de_varT {i : Nat} (he : PE X e (tVar i)) : DE p X e (dVar i) := ⟨he.con fun σ H Q q => by
  obtain ⟨μ, sd, h, hs, hS, hr, q⟩ := q
  unfold dVar at q
  split at q
  · rename_i d e1
    obtain ⟨v, e2, n⟩ := hs.get e1
    exact ⟨v, e2, q μ v H (.refl _ _) hr n⟩
  · exact q.elim⟩
theorem dv (i : Nat) {x : Str} {pos : Pos} (hN : X.N[i]? = some x := by rfl) (hv : Vis X.env.scope x := by first | exact Or.inl rfl | exact Or.inr (Or.inl rfl) | exact Or.inr (Or.inr rfl)) (hd : (x == ("__debug__" : Str)) = false := by decide)
    (hcd : (x == ("__classdict__" : Str)) = false := by decide) : DE p X (.Name x pos) (dVar i) := de_varT (pe_var hN hv hd hcd)
/-- two expressions in a row -/
theorem two {γ δ : Type} {relγ : List Addr → Hp → δ → γ → Prop} {k : D → D → DHp → R γ} {σ : St} {H : Hp} {Q : δ → Hp → Prop}
    (q : rdg X.K p relγ (fun sd h => (fa sd h).bind fun a h1 => (fb sd h1).bind fun b h2 => k a b h2) σ H Q) :
    rdg X.K p (Dn X.K) fa σ H fun x H1 => rdg X.K p (Dn X.K) fb σ H1 fun y H2 => ∃ μ sd h d1 d2, StR X.K μ H2 σ sd ∧ p.S σ μ H2 ∧ HR X.K μ H2 h ∧ Dn X.K μ H2 x d1 ∧ Dn X.K μ H2 y d2 ∧ Pst X.K p μ H2 σ relγ (k d1 d2 h) Q := by
  obtain ⟨μ, sd, h, hs, hS, hr, q⟩ := q
  refine ⟨μ, sd, h, hs, hS, hr, q.fst.imp fun x H1 ⟨μ1, h1, d1, e1, r1, n1, q1⟩ => ?_⟩
  refine ⟨μ1, sd, h1, hs.ext e1 fun _ => hr.mu, p.st e1 (fun _ => hr.mu) hS, r1, q1.fst.imp fun y H2 ⟨μ2, h2, d2, e2, r2, n2, q2⟩ => ?_⟩
  exact ⟨μ2, sd, h2, d1, d2, (hs.ext e1 fun _ => hr.mu).ext e2 fun _ => r1.mu, p.st e2 (fun _ => r1.mu) (p.st e1 (fun _ => hr.mu) hS), r2, n1.ext e2 fun _ => r1.mu, n2, q2⟩
theorem Pst.v {K : Fg} {μ : List Addr} {H : Hp} {σ : St} {r : R D} {Q : VK} (q : Pst K p μ H σ (Dn K) r Q) (ne : ∀ e h, r ≠ .ex e h) : VPst K μ H r Q := by
  cases r with
  | ok d h => exact q
  | ex e h => exact absurd rfl (ne e h)
  | no => exact q
/-- a two-place rule never lets an exception out -/
def NoEx2 (g : D → D → DHp → R D) : Prop := ∀ a b h e h', g a b h ≠ .ex e h'
def NoEx1 (g : D → DHp → R D) : Prop := ∀ a h e h', g a h ≠ .ex e h'
def NoExL (g : List D → DHp → R D) : Prop := ∀ a h e h', g a h ≠ .ex e h'
theorem bin_rd {g : D → D → DHp → R D} (ng : NoEx2 g) (ha : PE X a (rdg X.K p (Dn X.K) fa)) {σ : St} {H : Hp} {Q : VK} (q : rdg X.K p (Dn X.K) (dBin g fa fb) σ H Q) :
    tOp (rD X.K g) (rdg X.K p (Dn X.K) fa) (rdg X.K p (Dn X.K) fb) σ H Q := by
  obtain ⟨μ, sd, h, hs, hS, hr, q⟩ := two q
  refine ⟨μ, sd, h, hs, hS, hr, q.imp fun x H1 ⟨μ1, sd1, h1, s1, S1, r1, q1⟩ => ⟨μ1, sd1, h1, s1, S1, r1, q1.imp fun y H2 ⟨μ2, sd2, h2, d1, d2, s2, S2, r2, n1, n2, q2⟩ => ?_⟩⟩
  exact ⟨μ2, h2, d1, d2, r2, n1, n2, q2.v (ng _ _ _)⟩
theorem de_bin {op : Operator} {g : D → D → DHp → R D} (ho : OpR X (binaryOp op) (rD X.K g)) (ng : NoEx2 g) (ha : DE p X a fa) (hb : DE p X b fb) : DE p X (.BinOp a op b pos) (dBin g fa fb) :=
  ⟨(pe_op ho ha.pe hb.pe).con fun _ _ _ q => bin_rd ng ha.pe q⟩
theorem de_cmp {op : CmpOp} {g : D → D → DHp → R D} (ho : OpR X (compareOp op) (rD X.K g)) (ng : NoEx2 g) (ha : DE p X a fa) (hb : DE p X b fb) (hm : behindInMarks op b = false) : DE p X (.Compare a [op] [b] pos) (dBin g fa fb) :=
  ⟨(pe_cmpR ho ha.pe hb.pe hm).con fun _ _ _ q => bin_rd ng ha.pe q⟩
theorem dt_cmp {op : CmpOp} {g : D → D → DHp → R D} (ho : OpR X (compareOp op) (rD X.K g)) (ng : NoEx2 g) (ha : DE p X a fa) (hb : DE p X b fb) (hm : behindInMarks op b = false) : DT p X (.Compare a [op] [b] pos) (dTb (dBin g fa fb)) := by
  refine ⟨(pt_cmpR ho ha.pe hb.pe hm).con fun σ H Q q => ?_⟩
  refine bin_rd ng ha.pe ?_
  obtain ⟨μ, sd, h, hs, hS, hr, q⟩ := q
  refine ⟨μ, sd, h, hs, hS, hr, q.fst.imp fun x H1 ⟨μ1, h1, d1, e1, r1, n1, q1⟩ => ?_⟩
  unfold toB at q1
  split at q1
  · cases n1; exact ⟨_, rfl, q1 μ1 _ H1 (.refl _ _) r1 rfl⟩
  · exact q1.elim
theorem de_ix {g : D → D → DHp → R D} (ho : IxR X (rD X.K g)) (ng : NoEx2 g) (ha : DE p X a fa) (hb : DE p X b fb) (hs : PlainIx b) : DE p X (.Subscript a b pos) (dBin g fa fb) :=
  ⟨(pe_ix ho ha.pe hb.pe hs).con fun _ _ _ q => bin_rd ng ha.pe q⟩
theorem un_rd {g : D → DHp → R D} (ng : NoEx1 g) {σ : St} {H : Hp} {Q : VK} (q : rdg X.K p (Dn X.K) (dUn g fa) σ H Q) : tUn (rU1 X.K g) (rdg X.K p (Dn X.K) fa) σ H Q := by
  obtain ⟨μ, sd, h, hs, hS, hr, q⟩ := q
  refine ⟨μ, sd, h, hs, hS, hr, q.fst.imp fun x H1 ⟨μ1, h1, d1, e1, r1, n1, q1⟩ => ⟨μ1, h1, d1, r1, n1, q1.v (ng _ _)⟩⟩
theorem de_un {op : UnaryOp} {g : D → DHp → R D} (ho : UnR X (unaryOp op) (rU1 X.K g)) (ng : NoEx1 g) (ha : DE p X a fa) : DE p X (.UnaryOp op a pos) (dUn g fa) :=
  ⟨(pe_un ho ha.pe).con fun _ _ _ q => un_rd ng q⟩
theorem dt_val (ha : DE p X e fa) (he : ∀ whole, isTrue e X.env whole = (do let v ← whole; standAt e.pos; holding [v] (truthy v)) := by intro _; rfl) : DT p X e (dTb fa) := by
  refine ⟨(pt_val ha.pe he).con fun σ H Q q => ?_⟩
  obtain ⟨μ, sd, h, hs, hS, hr, q⟩ := q
  refine ⟨μ, sd, h, hs, hS, hr, q.fst.imp fun x H1 ⟨μ1, h1, d1, e1, r1, n1, q1⟩ => ?_⟩
  unfold toB at q1
  split at q1
  · cases n1; exact ⟨_, rfl, q1 μ1 _ H1 (.refl _ _) r1 rfl⟩
  · exact q1.elim
/-! truth -/
def tru : D → DHp → R Bool
  | .non, h => .ok false h
  | .bl b, h => .ok b h
  | .int i, h => .ok (i != 0) h
  | .str x, h => .ok (x.length != 0) h
  | .tup l, h => .ok (!l.isEmpty) h
  | .frl l, h => .ok (!l.isEmpty) h
  | .obj i, h => match h[i]? with
    | some (.lst l) => .ok (!l.isEmpty) h
    | some (.dK l) => .ok (!l.isEmpty) h
    | _ => .no
  | _, _ => .no
def dTru (f : DSt → DHp → R D) : DSt → DHp → R Bool := fun sd h => (f sd h).bind tru
theorem DnL.emp {K : Fg} {μ : List Addr} {H : Hp} {xs : List V} {ds : List D} (h : DnL K μ H xs ds) : xs.isEmpty = ds.isEmpty := by cases h <;> rfl
theorem KD.emp {κ : Type} {K : Fg} {μ : List Addr} {H : Hp} {xs : List (κ × V)} {ds : List (κ × D)} (h : KD K μ H xs ds) : xs.isEmpty = ds.isEmpty := by cases h <;> rfl
theorem dt_tru (ha : DE p X e fa) (he : ∀ whole, isTrue e X.env whole = (do let v ← whole; standAt e.pos; holding [v] (truthy v)) := by intro _; rfl) : DT p X e (dTru fa) := by
  refine ⟨(pt_truth ha.pe he).con fun σ H Q q => ?_⟩
  obtain ⟨μ, sd, h, hs, hS, hr, q⟩ := q
  refine ⟨μ, sd, h, hs, hS, hr, q.fst.imp fun x H1 ⟨μ1, h1, d1, e1, r1, n1, q1⟩ => ?_⟩
  cases n1 with
  | non => exact ⟨false, rfl, q1 μ1 _ H1 (.refl _ _) r1 rfl⟩
  | bl b => exact ⟨b, rfl, q1 μ1 _ H1 (.refl _ _) r1 rfl⟩
  | int i => exact ⟨_, rfl, q1 μ1 _ H1 (.refl _ _) r1 rfl⟩
  | str x hx =>
    refine ⟨_, ⟨hx.line, rfl⟩, ?_⟩
    have ee : (((x.length : Nat) : Int) != 0) = (x.length != 0) := by
      cases x.length with
      | zero => rfl
      | succ n => simp; omega
    rw [ee]
    exact q1 μ1 _ H1 (.refl _ _) r1 rfl
  | tup s l z => exact ⟨_, .inr (.inl ⟨_, s, rfl⟩), by rw [l.emp]; exact q1 μ1 _ H1 (.refl _ _) r1 rfl⟩
  | frl s l z => exact ⟨_, .inl ⟨_, s.sq, rfl⟩, by rw [l.emp]; exact q1 μ1 _ H1 (.refl _ _) r1 rfl⟩
  | @obj i a e2 =>
    have q1' : Pst X.K p μ1 H1 σ relB (match h1[i]? with | some (.lst l) => R.ok (!l.isEmpty) h1 | some (.dK l) => .ok (!l.isEmpty) h1 | _ => .no) Q := q1
    split at q1'
    · rename_i l e3
      obtain ⟨b, f1, xs, f2, f3, f4⟩ := r1.ob _ _ e3
      rw [e2] at f1; cases f1
      exact ⟨_, .inl ⟨_, .of f2, rfl⟩, by rw [f3.emp]; exact q1' μ1 _ H1 (.refl _ _) r1 rfl⟩
    · rename_i l e3
      obtain ⟨b, f1, xs, f2, f3, f4⟩ := r1.ob _ _ e3
      rw [e2] at f1; cases f1
      exact ⟨_, .inr (.inr ⟨_, f2, rfl⟩), by rw [f3.emp]; exact q1' μ1 _ H1 (.refl _ _) r1 rfl⟩
    · exact q1'.elim
  | ty n => exact (False.elim q1)
  | exc v => exact (False.elim q1)
end
/-! ### and, or, not -/
def dAnd (f g : DSt → DHp → R Bool) : DSt → DHp → R Bool := fun sd h => (f sd h).bind fun c h1 => if c = true then g sd h1 else .ok false h1
def dOr (f g : DSt → DHp → R Bool) : DSt → DHp → R Bool := fun sd h => (f sd h).bind fun c h1 => if c = true then .ok true h1 else g sd h1
def dNot (f : DSt → DHp → R Bool) : DSt → DHp → R Bool := fun sd h => (f sd h).bind fun c h1 => .ok (!c) h1
/-- as values (all but the last bools) -/
def dAndV (f g : DSt → DHp → R D) : DSt → DHp → R D := fun sd h => (f sd h).bind fun d h1 => (toB d h1).bind fun c h2 => if c = true then g sd h2 else .ok (.bl false) h2
def dOrV (f g : DSt → DHp → R D) : DSt → DHp → R D := fun sd h => (f sd h).bind fun d h1 => (toB d h1).bind fun c h2 => if c = true then .ok (.bl true) h2 else g sd h2
def dNotV (f : DSt → DHp → R D) : DSt → DHp → R D := fun sd h => (f sd h).bind fun d h1 => (toB d h1).bind fun c h2 => .ok (.bl (!c)) h2
def dIfE (c : DSt → DHp → R Bool) (f g : DSt → DHp → R D) : DSt → DHp → R D := fun sd h => (c sd h).bind fun b h1 => if b = true then f sd h1 else g sd h1
section
variable {X : Cx} {p : Pm} {e a b c : Expr} {rest : List Expr} {fa fb fc : DSt → DHp → R D} {ga gb : DSt → DHp → R Bool} {pos : Pos}
theorem toB_fst {K : Fg} {μ : List Addr} {H : Hp} {σ : St} {x : V} {d : D} {h : DHp} {γ δ : Type} {rel : List Addr → Hp → δ → γ → Prop} {k : Bool → DHp → R γ} {Q : δ → Hp → Prop} (n : Dn K μ H x d) (q : Pst K p μ H σ rel ((toB d h).bind k) Q) : ∃ c, x = .bl c ∧ Pst K p μ H σ rel (k c h) Q := by
  unfold toB at q
  split at q
  · cases n; exact ⟨_, rfl, q⟩
  · exact q.elim
theorem dw_and1 (ha : DT p X a ga) : DW p X (.BoolOp .And [a] pos) ga := ⟨pw_and1 ha.pt⟩
theorem dw_or1 (ha : DT p X a ga) : DW p X (.BoolOp .Or [a] pos) ga := ⟨pw_or1 ha.pt⟩
theorem dw_and (ha : DT p X a ga) (hb : DW p X (.BoolOp .And (b :: rest) pos) gb) : DW p X (.BoolOp .And (a :: b :: rest) pos) (dAnd ga gb) := by
  refine ⟨(pw_and ha.pt hb.pw).con fun σ H Q q => ?_⟩
  obtain ⟨μ, sd, h, hs, hS, hr, q⟩ := q
  refine ⟨μ, sd, h, hs, hS, hr, q.fst.imp fun c H1 ⟨μ1, h1, c', e1, r1, n1, q1⟩ => ?_⟩
  have n2 : c = c' := n1
  subst n2
  cases c with
  | true => exact ⟨μ1, sd, h1, hs.ext e1 fun _ => hr.mu, p.st e1 (fun _ => hr.mu) hS, r1, q1⟩
  | false => exact q1 μ1 _ H1 (.refl _ _) r1 rfl
theorem dw_or (ha : DT p X a ga) (hb : DW p X (.BoolOp .Or (b :: rest) pos) gb) : DW p X (.BoolOp .Or (a :: b :: rest) pos) (dOr ga gb) := by
  refine ⟨(pw_or ha.pt hb.pw).con fun σ H Q q => ?_⟩
  obtain ⟨μ, sd, h, hs, hS, hr, q⟩ := q
  refine ⟨μ, sd, h, hs, hS, hr, q.fst.imp fun c H1 ⟨μ1, h1, c', e1, r1, n1, q1⟩ => ?_⟩
  have n2 : c = c' := n1
  subst n2
  cases c with
  | true => exact q1 μ1 _ H1 (.refl _ _) r1 rfl
  | false => exact ⟨μ1, sd, h1, hs.ext e1 fun _ => hr.mu, p.st e1 (fun _ => hr.mu) hS, r1, q1⟩
theorem dt_w (h : DW p X e ga) : DT p X e ga := ⟨h.pw.pt⟩
theorem dt_not (ha : DT p X a ga) : DT p X (.UnaryOp .Not a pos) (dNot ga) := by
  refine ⟨(pt_not ha.pt).con fun σ H Q q => ?_⟩
  obtain ⟨μ, sd, h, hs, hS, hr, q⟩ := q
  refine ⟨μ, sd, h, hs, hS, hr, q.fst.imp fun c H1 ⟨μ1, h1, c', e1, r1, n1, q1⟩ => ?_⟩
  have n2 : c = c' := n1
  subst n2
  exact q1 μ1 _ H1 (.refl _ _) r1 rfl
theorem de_one {op} (ha : DE p X a fa) : DE p X (.BoolOp op [a] pos) fa := ⟨pe_one ha.pe⟩
theorem de_and (ha : DE p X a fa) (hb : DE p X (.BoolOp .And (b :: rest) pos) fb) : DE p X (.BoolOp .And (a :: b :: rest) pos) (dAndV fa fb) := by
  refine ⟨(pe_and ha.pe hb.pe).con fun σ H Q q => ?_⟩
  obtain ⟨μ, sd, h, hs, hS, hr, q⟩ := q
  refine ⟨μ, sd, h, hs, hS, hr, q.fst.imp fun x H1 ⟨μ1, h1, d1, e1, r1, n1, q1⟩ => ?_⟩
  obtain ⟨c, rfl, q2⟩ := toB_fst n1 q1
  refine ⟨c, rfl, ?_⟩
  cases c with
  | true => exact ⟨μ1, sd, h1, hs.ext e1 fun _ => hr.mu, p.st e1 (fun _ => hr.mu) hS, r1, q2⟩
  | false => exact q2 μ1 _ H1 (.refl _ _) r1 (.bl _)
theorem de_or (ha : DE p X a fa) (hb : DE p X (.BoolOp .Or (b :: rest) pos) fb) : DE p X (.BoolOp .Or (a :: b :: rest) pos) (dOrV fa fb) := by
  refine ⟨(pe_or ha.pe hb.pe).con fun σ H Q q => ?_⟩
  obtain ⟨μ, sd, h, hs, hS, hr, q⟩ := q
  refine ⟨μ, sd, h, hs, hS, hr, q.fst.imp fun x H1 ⟨μ1, h1, d1, e1, r1, n1, q1⟩ => ?_⟩
  obtain ⟨c, rfl, q2⟩ := toB_fst n1 q1
  refine ⟨c, rfl, ?_⟩
  cases c with
  | true => exact q2 μ1 _ H1 (.refl _ _) r1 (.bl _)
  | false => exact ⟨μ1, sd, h1, hs.ext e1 fun _ => hr.mu, p.st e1 (fun _ => hr.mu) hS, r1, q2⟩
theorem de_not (ha : DE p X a fa) : DE p X (.UnaryOp .Not a pos) (dNotV fa) := by
  refine ⟨(pe_not ha.pe).con fun σ H Q q => ?_⟩
  obtain ⟨μ, sd, h, hs, hS, hr, q⟩ := q
  refine ⟨μ, sd, h, hs, hS, hr, q.fst.imp fun x H1 ⟨μ1, h1, d1, e1, r1, n1, q1⟩ => ?_⟩
  obtain ⟨c, rfl, q2⟩ := toB_fst n1 q1
  exact ⟨c, rfl, q2 μ1 _ H1 (.refl _ _) r1 (.bl _)⟩
theorem de_ifE (hc : DT p X c ga) (ha : DE p X a fa) (hb : DE p X b fb) : DE p X (.IfExp c a b pos) (dIfE ga fa fb) := by
  refine ⟨(pe_ifExp hc.pt ha.pe hb.pe).con fun σ H Q q => ?_⟩
  obtain ⟨μ, sd, h, hs, hS, hr, q⟩ := q
  refine ⟨μ, sd, h, hs, hS, hr, q.fst.imp fun c H1 ⟨μ1, h1, c', e1, r1, n1, q1⟩ => ?_⟩
  have n2 : c = c' := n1
  subst n2
  cases c with
  | true => exact ⟨μ1, sd, h1, hs.ext e1 fun _ => hr.mu, p.st e1 (fun _ => hr.mu) hS, r1, q1⟩
  | false => exact ⟨μ1, sd, h1, hs.ext e1 fun _ => hr.mu, p.st e1 (fun _ => hr.mu) hS, r1, q1⟩
/-- a op1 b op2 c -/
def dChain (g g' : D → D → DHp → R D) (fa fb fc : DSt → DHp → R D) : DSt → DHp → R D := fun sd h => (fa sd h).bind fun a h1 => (fb sd h1).bind fun b h2 => (g a b h2).bind fun z h3 => (toB z h3).bind fun k h4 =>
  if k = true then (fc sd h4).bind fun c h5 => g' b c h5 else .ok (.bl false) h4
theorem chain_rd {g g' : D → D → DHp → R D} (ng : NoEx2 g) (ng' : NoEx2 g') {σ : St} {H : Hp} {Q : VK} (q : rdg X.K p (Dn X.K) (dChain g g' fa fb fc) σ H Q) :
    tChain (rD X.K g) (rD X.K g') (rdg X.K p (Dn X.K) fa) (rdg X.K p (Dn X.K) fb) (rdg X.K p (Dn X.K) fc) σ H Q := by
  obtain ⟨μ, sd, h, hs, hS, hr, q⟩ := q
  refine ⟨μ, sd, h, hs, hS, hr, q.fst.imp fun x H1 ⟨μ1, h1, d1, e1, r1, n1', q1⟩ => ?_⟩
  have s1 := hs.ext e1 fun _ => hr.mu
  refine ⟨μ1, sd, h1, s1, p.st e1 (fun _ => hr.mu) hS, r1, q1.fst.imp fun y H2 ⟨μ2, h2, d2, e2, r2, n2, q2⟩ => ?_⟩
  have s2 := s1.ext e2 fun _ => r1.mu
  have S2 := p.st e2 (fun _ => r1.mu) (p.st e1 (fun _ => hr.mu) hS)
  have n1 := n1'.ext e2 fun _ => r1.mu
  have q2 : Pst X.K p μ2 H2 σ (Dn X.K) ((g d1 d2 h2).bind fun z h3 => (toB z h3).bind fun k h4 => if k = true then (fc sd h4).bind fun c h5 => g' d2 c h5 else .ok (.bl false) h4) Q := q2
  refine ⟨μ2, h2, d1, d2, r2, n1, n2, ?_⟩
  refine Pst.v (p := p) (σ := σ) (q2.fst.imp fun z H3 ⟨μ3, h3, d3, e3, r3, n3, q3⟩ => ?_) (ng _ _ _)
  obtain ⟨k, rfl, q4⟩ := toB_fst n3 q3
  refine ⟨k, rfl, ?_⟩
  cases k with
  | false => exact q4 μ3 _ H3 (.refl _ _) r3 (.bl _)
  | true =>
    have q5 : Pst X.K p μ3 H3 σ (Dn X.K) ((fc sd h3).bind fun c h5 => g' d2 c h5) Q := q4
    refine ⟨μ3, sd, h3, s2.ext e3 fun _ => r2.mu, p.st e3 (fun _ => r2.mu) S2, r3, q5.fst.imp fun w H4 ⟨μ4, h4, d4, e4, r4, n4, q6⟩ => ?_⟩
    exact ⟨μ4, h4, d2, d4, r4, (n2.ext e3 fun _ => r2.mu).ext e4 fun _ => r3.mu, n4, q6.v (ng' _ _ _)⟩
theorem de_chain {op op' : CmpOp} {g g' : D → D → DHp → R D} (ho : OpR X (compareOp op) (rD X.K g)) (ng : NoEx2 g) (ho' : OpR X (compareOp op') (rD X.K g')) (ng' : NoEx2 g') (ha : DE p X a fa) (hb : DE p X b fb) (hc : DE p X c fc)
    (hm : lastMarks [op, op'] [b, c] = false := by with_unfolding_all rfl) : DE p X (.Compare a [op, op'] [b, c] pos) (dChain g g' fa fb fc) :=
  ⟨(pe_chain ho ho' ha.pe hb.pe hc.pe hm).con fun _ _ _ q => chain_rd ng ng' q⟩
theorem dt_chain {op op' : CmpOp} {g g' : D → D → DHp → R D} (ho : OpR X (compareOp op) (rD X.K g)) (ng : NoEx2 g) (ho' : OpR X (compareOp op') (rD X.K g')) (ng' : NoEx2 g') (ha : DE p X a fa) (hb : DE p X b fb) (hc : DE p X c fc)
    (hm : lastMarks [op, op'] [b, c] = false := by with_unfolding_all rfl) : DT p X (.Compare a [op, op'] [b, c] pos) (dTb (dChain g g' fa fb fc)) := by
  refine ⟨(pt_chain ho ho' ha.pe hb.pe hc.pe hm).con fun σ H Q q => ?_⟩
  refine chain_rd ng ng' ?_
  obtain ⟨μ, sd, h, hs, hS, hr, q⟩ := q
  refine ⟨μ, sd, h, hs, hS, hr, q.fst.imp fun x H1 ⟨μ1, h1, d1, e1, r1, n1, q1⟩ => ?_⟩
  unfold toB at q1
  split at q1
  · cases n1; exact ⟨_, rfl, q1 μ1 _ H1 (.refl _ _) r1 rfl⟩
  · exact q1.elim
end
/-! ### argument lists, displays, calls of built-ins -/
section
variable {X : Cx} {p : Pm} {e : Expr} {es : List Expr} {fa : DSt → DHp → R D} {fs : DSt → DHp → R (List D)} {pos : Pos}
theorem da_nil : DA p X [] dNil := ⟨pa_nil.con fun σ H Q q => by
  obtain ⟨μ, sd, h, hs, hS, hr, q⟩ := q
  exact q μ _ H (.refl _ _) hr .nil⟩
theorem da_cons (ha : DE p X e fa) (hr : DA p X es fs) (hs : starEach (e :: es) X.env = (false, eval e X.env) :: starEach es X.env := by rfl) : DA p X (e :: es) (dCons fa fs) := by
  refine ⟨(pa_cons ha.pe hr.pa hs).con fun σ H Q q => ?_⟩
  obtain ⟨μ, sd, h, hs, hS, hr, q⟩ := q
  refine ⟨μ, sd, h, hs, hS, hr, q.fst.imp fun x H1 ⟨μ1, h1, d1, e1, r1, n1, q1⟩ => ?_⟩
  refine ⟨μ1, sd, h1, hs.ext e1 fun _ => hr.mu, p.st e1 (fun _ => hr.mu) hS, r1, q1.fst.imp fun xs H2 ⟨μ2, h2, ds, e2, r2, n2, q2⟩ => ?_⟩
  exact q2 μ2 _ H2 (.refl _ _) r2 (.cons (n1.ext e2 fun _ => r1.mu) n2)
def gTup (ds : List D) (h : DHp) : R D := if ds.length ≤ sizeLine then .ok (.tup ds) h else .no
def gLst (ds : List D) (h : DHp) : R D := if ds.length ≤ sizeLine then .ok (.obj h.length) (h ++ [.lst ds]) else .no
theorem de_tup {x1} (h : DA p X es fs) : DE p X (.Tuple es x1 pos) (dArgs gTup fs) := by
  refine ⟨(pe_tup h.pa).con fun σ H Q q => ?_⟩
  obtain ⟨μ, sd, h, hs, hS, hr, q⟩ := q
  refine ⟨μ, sd, h, hs, hS, hr, q.fst.imp fun xs H1 ⟨μ1, h1, ds, e1, r1, n1, q1⟩ => ?_⟩
  unfold gTup at q1
  split at q1
  · rename_i z
    exact ⟨by rw [n1.length]; exact z, fun a na => VPst.new_tup (K := X.K) (Q := Q) q1 r1 n1 z na⟩
  · exact q1.elim
theorem de_lst (h : DA p X es fs) : DE p X (.List es pos) (dArgs gLst fs) := by
  refine ⟨(pe_lst h.pa).con fun σ H Q q => ?_⟩
  obtain ⟨μ, sd, h, hs, hS, hr, q⟩ := q
  refine ⟨μ, sd, h, hs, hS, hr, q.fst.imp fun xs H1 ⟨μ1, h1, ds, e1, r1, n1, q1⟩ => ?_⟩
  unfold gLst at q1
  split at q1
  · rename_i z
    exact ⟨by rw [n1.length]; exact z, fun a na => VPst.new_lst (K := X.K) (Q := Q) q1 r1 n1 z na⟩
  · exact q1.elim
theorem args_rd {g : List D → DHp → R D} (ng : NoExL g) {σ : St} {H : Hp} {Q : VK} (q : rdg X.K p (Dn X.K) (dArgs g fs) σ H Q) : tCB (rDL X.K g) (rdg X.K p (DnL X.K) fs) σ H Q := by
  obtain ⟨μ, sd, h, hs, hS, hr, q⟩ := q
  exact ⟨μ, sd, h, hs, hS, hr, q.fst.imp fun xs H1 ⟨μ1, h1, ds, e1, r1, n1, q1⟩ => ⟨μ1, h1, ds, r1, n1, q1.v (ng _ _)⟩⟩
variable {x : Str} {pn : Pos} {id T : String} {g : List D → DHp → R D}
theorem de_callB (hc : CallR X (.builtin id) (rDL X.K g)) (ng : NoExL g) (hg : Gl X x) (hm : X.mg x = none) (hv : bootBuiltins x = some (.builtin id)) (ha : DA p X (e :: es) fs) (hn : x ≠ "__name__" := by decide) (hdb : (x == ("__debug__" : Str)) = false := by decide)
    (he : starEach (e :: es) X.env = (false, eval e X.env) :: starEach es X.env := by rfl) (hpl : (backTo pos (starEach es X.env)).any (·.1) = false := by rfl) : DE p X (.Call (.Name x pn) (e :: es) [] pos) (dArgs g fs) :=
  ⟨(pe_callB hc hg hm hv ha.pa hn hdb he hpl).con fun _ _ _ q => args_rd ng q⟩
theorem de_callTy (hc : CallR X (.type T) (rDL X.K g)) (ng : NoExL g) (hg : Gl X x) (hm : X.mg x = none) (hv : bootBuiltins x = some (.type T)) (ha : DA p X (e :: es) fs) (hn : x ≠ "__name__" := by decide) (hdb : (x == ("__debug__" : Str)) = false := by decide)
    (he : starEach (e :: es) X.env = (false, eval e X.env) :: starEach es X.env := by rfl) (hpl : (backTo pos (starEach es X.env)).any (·.1) = false := by rfl) : DE p X (.Call (.Name x pn) (e :: es) [] pos) (dArgs g fs) :=
  ⟨(pe_callTy hc hg hm hv ha.pa hn hdb he hpl).con fun _ _ _ q => args_rd ng q⟩
theorem de_callM (hc : CallR X (.builtin id) (rDL X.K g)) (ng : NoExL g) (hg : Gl X x) (hm : X.mg x = some (.builtin id)) (ha : DA p X (e :: es) fs) (hdb : (x == ("__debug__" : Str)) = false := by decide)
    (he : starEach (e :: es) X.env = (false, eval e X.env) :: starEach es X.env := by rfl) (hpl : (backTo pos (starEach es X.env)).any (·.1) = false := by rfl) : DE p X (.Call (.Name x pn) (e :: es) [] pos) (dArgs g fs) :=
  ⟨(pe_callBfun hc hg hm ha.pa hdb he hpl).con fun _ _ _ q => args_rd ng q⟩
end
/-! ### slices -/
def dNoPart : DSt → DHp → R (Option Int) := fun _ h => .ok none h
def toI : D → DHp → R (Option Int)
  | .int i, h => .ok (some i) h
  | _, _ => .no
def dPart (f : DSt → DHp → R D) : DSt → DHp → R (Option Int) := fun sd h => (f sd h).bind toI
def dSl (g : D → Option Int → Option Int → DHp → R D) (fa : DSt → DHp → R D) (fl fu : DSt → DHp → R (Option Int)) : DSt → DHp → R D := fun sd h => (fa sd h).bind fun d h1 => (fl sd h1).bind fun l h2 => (fu sd h2).bind fun u h3 => g d l u h3
abbrev relO : List Addr → Hp → Option Int → Option Int → Prop := fun _ _ x y => x = y
structure DO' (p : Pm) (X : Cx) (e : Option Expr) (f : DSt → DHp → R (Option Int)) : Prop where
  po : PO X e (rdg X.K p relO f)
def rSlD (K : Fg) (g : D → Option Int → Option Int → DHp → R D) : V → Option Int → Option Int → Hp → VK → Prop := fun x l u H Q => ∃ μ h d, HR K μ H h ∧ Dn K μ H x d ∧ VPst K μ H (g d l u h) Q
section
variable {X : Cx} {p : Pm} {e : Expr} {fa : DSt → DHp → R D} {lo hi : Option Expr} {fl fu : DSt → DHp → R (Option Int)} {pos p2 : Pos}
theorem _root_.L2.PO.con {e : Option Expr} {t t' : TO} (h : PO X e t) (i : ∀ σ H Q, t' σ H Q → t σ H Q) : PO X e t' := ⟨fun pins s σ H Q I q => h.run pins s σ H Q I (i _ _ _ q)⟩
theorem do_none : DO' p X none dNoPart := ⟨po_none.con fun σ H Q q => by
  obtain ⟨μ, sd, h, hs, hS, hr, q⟩ := q
  exact q μ _ H (.refl _ _) hr rfl⟩
theorem do_some (ha : DE p X e fa) : DO' p X (some e) (dPart fa) := ⟨(po_some ha.pe).con fun σ H Q q => by
  obtain ⟨μ, sd, h, hs, hS, hr, q⟩ := q
  refine ⟨μ, sd, h, hs, hS, hr, q.fst.imp fun x H1 ⟨μ1, h1, d1, e1, r1, n1, q1⟩ => ?_⟩
  unfold toI at q1
  split at q1
  · cases n1; exact ⟨_, rfl, q1 μ1 _ H1 (.refl _ _) r1 rfl⟩
  · exact q1.elim⟩
theorem de_slice {g : D → Option Int → Option Int → DHp → R D} (hr : SlR X (rSlD X.K g)) (ng : ∀ d l u h e h', g d l u h ≠ .ex e h') (he : DE p X e fa) (hl : DO' p X lo fl) (hu : DO' p X hi fu) : DE p X (.Subscript e (.Slice lo hi none p2) pos) (dSl g fa fl fu) := by
  refine ⟨(pe_slice hr he.pe hl.po hu.po).con fun σ H Q q => ?_⟩
  obtain ⟨μ, sd, h, hs, hS, hr, q⟩ := q
  refine ⟨μ, sd, h, hs, hS, hr, q.fst.imp fun x H1 ⟨μ1, h1, d1, e1, r1, n1, q1⟩ => ?_⟩
  refine ⟨μ1, sd, h1, hs.ext e1 fun _ => hr.mu, p.st e1 (fun _ => hr.mu) hS, r1, q1.fst.imp fun l H2 ⟨μ2, h2, l', e2, r2, n2, q2⟩ => ?_⟩
  have n2' : l = l' := n2
  subst n2'
  refine ⟨μ2, sd, h2, (hs.ext e1 fun _ => hr.mu).ext e2 fun _ => r1.mu, p.st e2 (fun _ => r1.mu) (p.st e1 (fun _ => hr.mu) hS), r2, q2.fst.imp fun u H3 ⟨μ3, h3, u', e3, r3, n3, q3⟩ => ?_⟩
  have n3' : u = u' := n3
  subst n3'
  exact ⟨μ3, h3, d1, r3, (n1.ext e2 fun _ => r1.mu).ext e3 fun _ => r2.mu, q3.v (ng _ _ _ _)⟩
end
end DL
end

section
set_option Elab.async false
set_option linter.all false
set_option maxRecDepth 100000
/-! DL3: operations on values. -/
namespace DL
open PySem PySem.Spec PyProof.Rows
open L2 hiding St
/-! ### ints -/
def mulOk (i j : Int) : Prop := CMul i j ∨ CMulW i j
instance (i j : Int) : Decidable (mulOk i j) := by unfold mulOk CMul CMulW; infer_instance
def divOk (j : Int) : Prop := j ≠ 0 ∧ j.natAbs.log2 < 9000
instance (j : Int) : Decidable (divOk j) := by unfold divOk; infer_instance
def powOk (i j : Int) : Prop := 0 ≤ j ∧ (Builtin.Int.intBits i : Int) * j ≤ 2 ^ 27
instance (i j : Int) : Decidable (powOk i j) := by unfold powOk; infer_instance
theorem strOk_app {x y : Str} (h1 : PySem.PyData.strOk x = true) (h2 : PySem.PyData.strOk y = true) : PySem.PyData.strOk (x ++ y) = true := by
  unfold PySem.PyData.strOk at *
  show (x.cps ++ y.cps).all _ = true
  rw [Array.all_append, h1, h2]; rfl
theorem str_len_app (x y : Str) : (x ++ y).length = x.length + y.length := by
  show (x.cps ++ y.cps).size = x.cps.size + y.cps.size
  exact Array.size_append
def gAdd : D → D → DHp → R D
  | .int i, .int j, h => .ok (.int (i + j)) h
  | .str x, .str y, h => if x.length + y.length ≤ strMax then .ok (.str (x ++ y)) h else .no
  | .tup a, .tup b, h => if a.length + b.length ≤ sizeLine then .ok (.tup (a ++ b)) h else .no
  | .obj i, .obj j, h => match h[i]?, h[j]? with
    | some (.lst a), some (.lst b) => if a.length + b.length ≤ sizeLine then .ok (.obj h.length) (h ++ [.lst (a ++ b)]) else .no
    | _, _ => .no
  | _, _, _ => .no
def gSub : D → D → DHp → R D
  | .int i, .int j, h => .ok (.int (i - j)) h
  | _, _, _ => .no
def gMul : D → D → DHp → R D
  | .int i, .int j, h => if mulOk i j then .ok (.int (i * j)) h else .no
  | _, _, _ => .no
def gFdiv : D → D → DHp → R D
  | .int i, .int j, h => if divOk j then .ok (.int (i.fdiv j)) h else .no
  | _, _, _ => .no
def gMod : D → D → DHp → R D
  | .int i, .int j, h => if j ≠ 0 then .ok (.int (i.fmod j)) h else .no
  | _, _, _ => .no
def gPow : D → D → DHp → R D
  | .int i, .int j, h => if powOk i j then .ok (.int (i ^ j.toNat)) h else .no
  | _, _, _ => .no
def gNeg : D → DHp → R D
  | .int i, h => .ok (.int (-i)) h
  | _, _ => .no
section
variable {X : Cx}
theorem noEx2_of {g : D → D → DHp → R D} (h : ∀ a b h, (∃ d h', g a b h = .ok d h') ∨ g a b h = .no) : NoEx2 g := fun a b h' e h'' z => by
  rcases h a b h' with ⟨d, h3, q⟩ | q <;> rw [q] at z <;> cases z
theorem ne_Add : NoEx2 gAdd := by
  intro a b h e h' z
  unfold gAdd at z
  split at z
  · cases z
  · split at z <;> cases z
  · split at z <;> cases z
  · split at z
    · split at z <;> cases z
    · cases z
  · cases z
theorem ne_Sub : NoEx2 gSub := by intro a b h e h' z; unfold gSub at z; split at z <;> cases z
theorem ne_Mul : NoEx2 gMul := by intro a b h e h' z; unfold gMul at z; split at z <;> (try split at z) <;> cases z
theorem ne_Fdiv : NoEx2 gFdiv := by intro a b h e h' z; unfold gFdiv at z; split at z <;> (try split at z) <;> cases z
theorem ne_Mod : NoEx2 gMod := by intro a b h e h' z; unfold gMod at z; split at z <;> (try split at z) <;> cases z
theorem ne_Pow : NoEx2 gPow := by intro a b h e h' z; unfold gPow at z; split at z <;> (try split at z) <;> cases z
theorem ne_Neg : NoEx1 gNeg := by intro a h e h' z; unfold gNeg at z; split at z <;> cases z
theorem op_catG {K : Fg} (hK : X.K = K) : OpR X (binaryOp .Add) (rCatA K) := by subst hK; exact op_catA
/-- list + list, the two may be one -/
theorem op_addD : OpR X (binaryOp .Add) (rD X.K gAdd) := by
  rintro pins s σ H x y v u Q I rx ry ⟨μ, h, d1, d2, hr, n1, n2, q⟩
  cases n1 with
  | int i => cases n2 with
    | int j => exact op_add pins s σ H _ _ v u Q I rx ry ⟨i, j, rfl, rfl, VPst.now q hr (.int _)⟩
    | _ => exact False.elim q
  | str x hx => cases n2 with
    | str y hy =>
      have q' : VPst X.K μ H (if x.length + y.length ≤ strMax then .ok (.str (x ++ y)) h else .no) Q := q
      split at q'
      · rename_i z
        exact op_add_str pins s σ H _ _ v u Q I rx ry ⟨x, y, rfl, rfl, strMax_line z, q'.now hr (.str _ ⟨by rw [str_len_app]; exact z, strOk_app hx.2 hy.2⟩)⟩
      · exact False.elim q'
    | _ => exact False.elim q
  | @tup a xs as sa la za => cases n2 with
    | @tup b ys bs sb lb zb =>
      have q' : VPst X.K μ H (if as.length + bs.length ≤ sizeLine then .ok (.tup (as ++ bs)) h else .no) Q := q
      split at q'
      · rename_i z
        refine op_catA pins s σ H _ _ v u Q I rx ry ⟨a, b, xs, ys, rfl, rfl, sa, sb, by rw [la.length, lb.length]; exact z, fun e => ?_, fun _ e => ?_, fun _ _ p np => ?_⟩
        · subst e; cases la; exact q'.now hr (.tup sb lb zb)
        · subst e; cases lb; rw [List.append_nil] at q'; exact q'.now hr (.tup sa la za)
        · exact q'.new_tup hr (la.app lb) (by rw [List.length_append]; exact z) np
      · exact False.elim q'
    | _ => exact False.elim q
  | @obj i a e1 => cases n2 with
    | @obj j b e2 =>
      have q' : VPst X.K μ H (match h[i]?, h[j]? with
        | some (.lst a), some (.lst b) => if a.length + b.length ≤ sizeLine then R.ok (.obj h.length) (h ++ [.lst (a ++ b)]) else .no
        | _, _ => .no) Q := q
      split at q'
      · rename_i as bs f1 f2
        obtain ⟨a', xs, g1, g2, g3, g4⟩ := hr.lst f1
        rw [e1] at g1; cases g1
        obtain ⟨b', ys, k1, k2, k3, k4⟩ := hr.lst f2
        rw [e2] at k1; cases k1
        split at q'
        · rename_i z
          exact op_cat pins s σ H _ _ v u Q I rx ry ⟨a, b, xs, ys, rfl, rfl, g2, k2, by rw [g3.length, k3.length]; exact z, fun p np => q'.new_lst hr (g3.app k3) (by rw [List.length_append]; exact z) np⟩
        · exact False.elim q'
      · exact False.elim q'
    | _ => exact False.elim q
  | _ => exact False.elim q
theorem op_subD : OpR X (binaryOp .Sub) (rD X.K gSub) := by
  rintro pins s σ H x y v u Q I rx ry ⟨μ, h, d1, d2, hr, n1, n2, q⟩
  cases n1 with
  | int i => cases n2 with
    | int j => exact op_sub pins s σ H _ _ v u Q I rx ry ⟨i, j, rfl, rfl, VPst.now q hr (.int _)⟩
    | _ => exact False.elim q
  | _ => exact False.elim q
theorem op_mulD : OpR X (binaryOp .Mult) (rD X.K gMul) := by
  rintro pins s σ H x y v u Q I rx ry ⟨μ, h, d1, d2, hr, n1, n2, q⟩
  cases n1 with
  | int i => cases n2 with
    | int j =>
      have q' : VPst X.K μ H (if mulOk i j then .ok (.int (i * j)) h else .no) Q := q
      split at q'
      · rename_i z
        rcases z with z | z
        · exact op_mul pins s σ H _ _ v u Q I rx ry ⟨i, j, rfl, rfl, z, q'.now hr (.int _)⟩
        · exact op_mulW pins s σ H _ _ v u Q I rx ry ⟨i, j, rfl, rfl, z, q'.now hr (.int _)⟩
      · exact False.elim q'
    | _ => exact False.elim q
  | _ => exact False.elim q
theorem op_fdivA : OpR X (binaryOp .FloorDiv) (rI (fun _ j => divOk j) fun i j => .int (i.fdiv j)) := opI fun i j _ _ _ _ _ hc q => floordiv_int hc.1 q (.inl (PyProof.noPylong_of_log2 hc.2))
theorem op_fdivD : OpR X (binaryOp .FloorDiv) (rD X.K gFdiv) := by
  rintro pins s σ H x y v u Q I rx ry ⟨μ, h, d1, d2, hr, n1, n2, q⟩
  cases n1 with
  | int i => cases n2 with
    | int j =>
      have q' : VPst X.K μ H (if divOk j then .ok (.int (i.fdiv j)) h else .no) Q := q
      split at q'
      · rename_i z
        exact op_fdivA pins s σ H _ _ v u Q I rx ry ⟨i, j, rfl, rfl, z, q'.now hr (.int _)⟩
      · exact False.elim q'
    | _ => exact False.elim q
  | _ => exact False.elim q
theorem op_modD : OpR X (binaryOp .Mod) (rD X.K gMod) := by
  rintro pins s σ H x y v u Q I rx ry ⟨μ, h, d1, d2, hr, n1, n2, q⟩
  cases n1 with
  | int i => cases n2 with
    | int j =>
      have q' : VPst X.K μ H (if j ≠ 0 then .ok (.int (i.fmod j)) h else .no) Q := q
      split at q'
      · rename_i z
        exact op_modN pins s σ H _ _ v u Q I rx ry ⟨i, j, rfl, rfl, z, q'.now hr (.int _)⟩
      · exact False.elim q'
    | _ => exact False.elim q
  | _ => exact False.elim q
theorem op_powA : OpR X (binaryOp .Pow) (rI powOk fun i j => .int (i ^ j.toNat)) := opI fun i j _ _ _ _ _ hc q => pow_int hc.1 hc.2 q
theorem op_powD : OpR X (binaryOp .Pow) (rD X.K gPow) := by
  rintro pins s σ H x y v u Q I rx ry ⟨μ, h, d1, d2, hr, n1, n2, q⟩
  cases n1 with
  | int i => cases n2 with
    | int j =>
      have q' : VPst X.K μ H (if powOk i j then .ok (.int (i ^ j.toNat)) h else .no) Q := q
      split at q'
      · rename_i z
        exact op_powA pins s σ H _ _ v u Q I rx ry ⟨i, j, rfl, rfl, z, q'.now hr (.int _)⟩
      · exact False.elim q'
    | _ => exact False.elim q
  | _ => exact False.elim q
theorem un_negD : UnR X (unaryOp .USub) (rU1 X.K gNeg) := by
  rintro pins s σ H x v Q I rx ⟨μ, h, d1, hr, n1, q⟩
  cases n1 with
  | int i => exact un_neg pins s σ H _ v Q I rx ⟨i, rfl, VPst.now q hr (.int _)⟩
  | _ => exact False.elim q
end
/-! ### order -/
def gLt : D → D → DHp → R D
  | .int i, .int j, h => .ok (.bl (decide (i < j))) h
  | .str i, .str j, h => .ok (.bl (decide (i.cps.toList < j.cps.toList))) h
  | _, _, _ => .no
def gLe : D → D → DHp → R D
  | .int i, .int j, h => .ok (.bl (decide (i ≤ j))) h
  | _, _, _ => .no
def gGt : D → D → DHp → R D
  | .int i, .int j, h => .ok (.bl (decide (j < i))) h
  | _, _, _ => .no
def gGe : D → D → DHp → R D
  | .int i, .int j, h => .ok (.bl (decide (j ≤ i))) h
  | _, _, _ => .no
section
variable {X : Cx}
theorem ne_Lt : NoEx2 gLt := by intro a b h e h' z; unfold gLt at z; split at z <;> cases z
theorem ne_Le : NoEx2 gLe := by intro a b h e h' z; unfold gLe at z; split at z <;> cases z
theorem ne_Gt : NoEx2 gGt := by intro a b h e h' z; unfold gGt at z; split at z <;> cases z
theorem ne_Ge : NoEx2 gGe := by intro a b h e h' z; unfold gGe at z; split at z <;> cases z
theorem op_ltD : OpR X (compareOp .Lt) (rD X.K gLt) := by
  rintro pins s σ H x y v u Q I rx ry ⟨μ, h, d1, d2, hr, n1, n2, q⟩
  cases n1 with
  | int i => cases n2 with
    | int j => exact op_lt pins s σ H _ _ v u Q I rx ry ⟨i, j, rfl, rfl, VPst.now q hr (.bl _)⟩
    | _ => exact False.elim q
  | str i => cases n2 with
    | str j => exact op_lt_str pins s σ H _ _ v u Q I rx ry ⟨i, j, rfl, rfl, VPst.now q hr (.bl _)⟩
    | _ => exact False.elim q
  | _ => exact False.elim q
theorem op_leD : OpR X (compareOp .LtE) (rD X.K gLe) := by
  rintro pins s σ H x y v u Q I rx ry ⟨μ, h, d1, d2, hr, n1, n2, q⟩
  cases n1 with
  | int i => cases n2 with
    | int j => exact op_le pins s σ H _ _ v u Q I rx ry ⟨i, j, rfl, rfl, VPst.now q hr (.bl _)⟩
    | _ => exact False.elim q
  | _ => exact False.elim q
theorem op_gtD : OpR X (compareOp .Gt) (rD X.K gGt) := by
  rintro pins s σ H x y v u Q I rx ry ⟨μ, h, d1, d2, hr, n1, n2, q⟩
  cases n1 with
  | int i => cases n2 with
    | int j => exact op_gt pins s σ H _ _ v u Q I rx ry ⟨i, j, rfl, rfl, VPst.now q hr (.bl _)⟩
    | _ => exact False.elim q
  | _ => exact False.elim q
theorem op_geD : OpR X (compareOp .GtE) (rD X.K gGe) := by
  rintro pins s σ H x y v u Q I rx ry ⟨μ, h, d1, d2, hr, n1, n2, q⟩
  cases n1 with
  | int i => cases n2 with
    | int j => exact op_ge pins s σ H _ _ v u Q I rx ry ⟨i, j, rfl, rfl, VPst.now q hr (.bl _)⟩
    | _ => exact False.elim q
  | _ => exact False.elim q
end
/-! ### == at any depth -/
mutual
def toPyA (ro : Nat → Option PyData) : D → Option PyData
  | .non => some .none
  | .bl b => some (.bool b)
  | .int i => some (.int i)
  | .str s => some (.str s)
  | .tup l => match toPyL ro l with
    | some x => some (.tuple x)
    | none => none
  | .frl l => match toPyL ro l with
    | some x => some (.list x)
    | none => none
  | .obj i => ro i
  | .ty _ => none
  | .exc => none
def toPyL (ro : Nat → Option PyData) : List D → Option (List PyData)
  | [] => some []
  | d :: ds => match toPyA ro d, toPyL ro ds with
    | some a, some b => some (a :: b)
    | _, _ => none
end
def roN : Nat → DHp → Nat → Option PyData
  | 0, _, _ => none
  | n + 1, h, i => match h[i]? with
    | some (.lst l) => match toPyL (roN n h) l with
      | some x => some (.list x)
      | none => none
    | _ => none
def toPy (h : DHp) (d : D) : Option PyData := toPyA (roN 3 h) d
section
variable {K : Fg} {μ : List Addr} {H : Hp} {ro : Nat → Option PyData}
mutual
theorem dp_of (hro : ∀ i a e, μ[i]? = some a → ro i = some e → Dp K H (.ref a) e ∧ PySem.PyData.canLay0 e = true) : ∀ {v : V} {d : D}, Dn K μ H v d → ∀ {e : PyData}, toPyA ro d = some e → Dp K H v e ∧ PySem.PyData.canLay0 e = true
  | _, _, .non, e, q => by rw [toPyA] at q; cases q; exact ⟨.non, rfl⟩
  | _, _, .bl b, e, q => by rw [toPyA] at q; cases q; exact ⟨.bl b, rfl⟩
  | _, _, .int i, e, q => by rw [toPyA] at q; cases q; exact ⟨.int i, rfl⟩
  | _, _, .str x hx, e, q => by rw [toPyA] at q; cases q; exact ⟨.str x, by rw [PySem.PyData.canLay0]; exact hx.2⟩
  | _, _, .tup s l z, e, q => by
    rw [toPyA] at q
    split at q
    · rename_i x ex
      cases q
      obtain ⟨q1, q2⟩ := dpL_of hro l ex
      exact ⟨.tup s q1, by rw [PySem.PyData.canLay0]; exact q2⟩
    · cases q
  | _, _, .frl s l z, e, q => by
    rw [toPyA] at q
    split at q
    · rename_i x ex
      cases q
      obtain ⟨q1, q2⟩ := dpL_of hro l ex
      exact ⟨.lst s.sq q1, by rw [PySem.PyData.canLay0]; exact q2⟩
    · cases q
  | _, _, .obj hi, e, q => by rw [toPyA] at q; exact hro _ _ _ hi q
  | _, _, .ty n, e, q => by rw [toPyA] at q; cases q
  | _, _, .exc v, e, q => by rw [toPyA] at q; cases q
theorem dpL_of (hro : ∀ i a e, μ[i]? = some a → ro i = some e → Dp K H (.ref a) e ∧ PySem.PyData.canLay0 e = true) : ∀ {v : List V} {d : List D}, DnL K μ H v d → ∀ {e : List PyData}, toPyL ro d = some e → DpAll K H v e ∧ PySem.PyData.canLayAll0 e = true
  | _, _, .nil, e, q => by rw [toPyL] at q; cases q; exact ⟨.nil, rfl⟩
  | _, _, .cons a t, e, q => by
    rw [toPyL] at q
    split at q
    · rename_i x y ex ey
      cases q
      obtain ⟨q1, q2⟩ := dp_of hro a ex
      obtain ⟨q3, q4⟩ := dpL_of hro t ey
      exact ⟨.cons q1 q3, by rw [PySem.PyData.canLayAll0, q2, q4]; rfl⟩
    · cases q
end
theorem ro_of {h : DHp} (hr : HR K μ H h) : ∀ n i a e, μ[i]? = some a → roN n h i = some e → Dp K H (.ref a) e ∧ PySem.PyData.canLay0 e = true
  | 0, _, _, _, _, q => by rw [roN] at q; cases q
  | n + 1, i, a, e, hi, q => by
    rw [roN] at q
    split at q
    · rename_i l e1
      split at q
      · rename_i x ex
        cases q
        obtain ⟨b, xs, g1, g2, g3, g4⟩ := hr.lst e1
        rw [hi] at g1; cases g1
        obtain ⟨q1, q2⟩ := dpL_of (ro_of hr n) g3 ex
        exact ⟨.lst (.of g2) q1, by rw [PySem.PyData.canLay0]; exact q2⟩
      · cases q
    · cases q
theorem toPy_ok {h : DHp} (hr : HR K μ H h) {v : V} {d : D} (n : Dn K μ H v d) {e : PyData} (q : toPy h d = some e) : Dp K H v e ∧ PySem.PyData.canLay0 e = true := dp_of (ro_of hr 3) n q
end
def eqD (h : DHp) (a b : D) : Option Bool := match toPy h a, toPy h b with
  | some x, some y => if x.depth ≤ 64 ∧ y.depth ≤ 64 then some (PyData.eqv x y) else none
  | _, _ => none
def gEq (a b : D) (h : DHp) : R D := match eqD h a b with
  | some k => .ok (.bl k) h
  | none => .no
def gNe (a b : D) (h : DHp) : R D := match eqD h a b with
  | some k => .ok (.bl (!k)) h
  | none => .no
def gIs : D → D → DHp → R D
  | .bl a, .bl b, h => .ok (.bl (decide (a = b))) h
  | d, .non, h => match d with
    | .non => .ok (.bl true) h
    | .exc => .no
    | _ => .ok (.bl false) h
  | _, _, _ => .no
def gIsN : D → D → DHp → R D
  | .bl a, .bl b, h => .ok (.bl (!decide (a = b))) h
  | d, .non, h => match d with
    | .non => .ok (.bl false) h
    | .exc => .no
    | _ => .ok (.bl true) h
  | _, _, _ => .no
section
variable {X : Cx}
theorem ne_Eq : NoEx2 gEq := by intro a b h e h' z; unfold gEq at z; split at z <;> cases z
theorem ne_Ne : NoEx2 gNe := by intro a b h e h' z; unfold gNe at z; split at z <;> cases z
theorem ne_Is : NoEx2 gIs := by intro a b h e h' z; unfold gIs at z; split at z <;> (try split at z) <;> cases z
theorem ne_IsN : NoEx2 gIsN := by intro a b h e h' z; unfold gIsN at z; split at z <;> (try split at z) <;> cases z
theorem eqD_some {h : DHp} {a b : D} {k : Bool} (e : eqD h a b = some k) : ∃ x y, toPy h a = some x ∧ toPy h b = some y ∧ x.depth ≤ 64 ∧ y.depth ≤ 64 ∧ k = PyData.eqv x y := by
  unfold eqD at e
  split at e
  · rename_i x y ex ey
    split at e
    · rename_i z
      cases e
      exact ⟨x, y, ex, ey, z.1, z.2, rfl⟩
    · cases e
  · cases e
theorem op_eqA (hu : X.A.units + 64 < cLine) : OpR X (compareOp .Eq) (rD X.K gEq) := by
  rintro pins s σ H x y v u Q I rx ry ⟨μ, h, d1, d2, hr, n1, n2, q⟩
  unfold gEq at q
  split at q
  · rename_i k e
    obtain ⟨a, b, ea, eb, za, zb, rfl⟩ := eqD_some e
    obtain ⟨p1, c1⟩ := toPy_ok hr n1 ea
    obtain ⟨p2, c2⟩ := toPy_ok hr n2 eb
    refine op_eqD hu pins s σ H _ _ v u Q I rx ry ⟨a, b, p1, p2, ?_, ?_, VPst.now q hr (.bl _)⟩
    · unfold SeqAt.shaped; rw [c1, decide_eq_true za]; rfl
    · unfold SeqAt.shaped; rw [c2, decide_eq_true zb]; rfl
  · exact False.elim q
theorem op_neA (hu : X.A.units + 64 < cLine) : OpR X (compareOp .NotEq) (rD X.K gNe) := by
  rintro pins s σ H x y v u Q I rx ry ⟨μ, h, d1, d2, hr, n1, n2, q⟩
  unfold gNe at q
  split at q
  · rename_i k e
    obtain ⟨a, b, ea, eb, za, zb, rfl⟩ := eqD_some e
    obtain ⟨p1, c1⟩ := toPy_ok hr n1 ea
    obtain ⟨p2, c2⟩ := toPy_ok hr n2 eb
    refine op_neD hu pins s σ H _ _ v u Q I rx ry ⟨a, b, p1, p2, ?_, ?_, VPst.now q hr (.bl _)⟩
    · unfold SeqAt.shaped; rw [c1, decide_eq_true za]; rfl
    · unfold SeqAt.shaped; rw [c2, decide_eq_true zb]; rfl
  · exact False.elim q
theorem op_isD : OpR X (compareOp .Is) (rD X.K gIs) := by
  rintro pins s σ H x y v u Q I rx ry ⟨μ, h, d1, d2, hr, n1, n2, q⟩
  cases n2 with
  | non => cases n1 with
    | exc _ => exact False.elim q
    | non => exact op_isN pins s σ H _ _ v u Q I rx ry ⟨rfl, VPst.now q hr (.bl _)⟩
    | _ => exact op_isN pins s σ H _ _ v u Q I rx ry ⟨rfl, VPst.now (v := .bl false) q hr (.bl _)⟩
  | bl b => cases n1 with
    | bl a => exact op_isBl pins s σ H _ _ v u Q I rx ry ⟨a, b, rfl, rfl, VPst.now q hr (.bl _)⟩
    | _ => exact False.elim q
  | _ => cases n1 <;> exact False.elim q
theorem op_isND : OpR X (compareOp .IsNot) (rD X.K gIsN) := by
  rintro pins s σ H x y v u Q I rx ry ⟨μ, h, d1, d2, hr, n1, n2, q⟩
  cases n2 with
  | non => cases n1 with
    | exc _ => exact False.elim q
    | non => exact op_notN pins s σ H _ _ v u Q I rx ry ⟨rfl, VPst.now q hr (.bl _)⟩
    | _ => exact op_notN pins s σ H _ _ v u Q I rx ry ⟨rfl, VPst.now (v := .bl true) q hr (.bl _)⟩
  | bl b => cases n1 with
    | bl a => exact op_notBl pins s σ H _ _ v u Q I rx ry ⟨a, b, rfl, rfl, VPst.now q hr (.bl _)⟩
    | _ => exact False.elim q
  | _ => cases n1 <;> exact False.elim q
end
end DL
end

section
set_option Elab.async false
set_option linter.all false
set_option maxRecDepth 100000
/-! DL4: items, slices, built-ins. -/
namespace DL
open PySem PySem.Spec PyProof.Rows
open L2 hiding St
theorem DnL.atI {K : Fg} {μ : List Addr} {H : Hp} {vs : List V} {ds : List D} (h : DnL K μ H vs ds) {i : Int} {d : D} (e : L2.atI ds i = some d) : ∃ v, L2.atI vs i = some v ∧ Dn K μ H v d := by
  unfold L2.atI at e ⊢
  rw [h.length]
  cases q : ixN ds.length i with
  | none => rw [q] at e; cases e
  | some j =>
    rw [q] at e
    exact h.get e
def gIx : D → D → DHp → R D
  | .tup l, .int i, h => match L2.atI l i with
    | some d => .ok d h
    | none => .no
  | .frl l, .int i, h => match L2.atI l i with
    | some d => .ok d h
    | none => .no
  | .str z, .int i, h => match L2.atI z.cps.toList i with
    | some c => .ok (.str ⟨#[c]⟩) h
    | none => .no
  | .obj j, .int i, h => match h[j]? with
    | some (.lst l) => match L2.atI l i with
      | some d => .ok d h
      | none => .no
    | _ => .no
  | _, _, _ => .no
theorem strOk_mem {z : Str} (h : PySem.PyData.strOk z = true) {c : Nat} (hc : c ∈ z.cps.toList) : c < 0x110000 := by
  unfold PySem.PyData.strOk at h
  have := (Array.all_eq_true_iff_forall_mem.mp h) c (Array.mem_def.mpr hc)
  simpa using this
theorem strOk_of {l : List Nat} (h : ∀ c ∈ l, c < 0x110000) : PySem.PyData.strOk ⟨l.toArray⟩ = true := by
  unfold PySem.PyData.strOk
  rw [Array.all_eq_true_iff_forall_mem]
  intro c hc
  have := h c (by simpa using hc)
  simpa using this
theorem atI_mem {α : Type} {xs : List α} {i : Int} {v : α} (h : L2.atI xs i = some v) : v ∈ xs := by
  obtain ⟨j, _, e, _⟩ := atI_get h
  exact List.mem_of_getElem? e
theorem sOk_cut {z : Str} (h : sOk z) (lo hi : Option Int) : sOk (cutS z lo hi) := by
  have hz : z.cps.toList.length = z.length := by simp [PySem.Str.length]
  refine ⟨?_, strOk_of fun c hc => strOk_mem h.2 (List.mem_of_mem_drop (List.mem_of_mem_take hc))⟩
  show (List.toArray _).size ≤ strMax
  rw [List.size_toArray, List.length_take, List.length_drop, hz]
  have := h.1
  omega
section
variable {X : Cx}
theorem ne_Ix : NoEx2 gIx := by
  intro a b h e h' z
  unfold gIx at z
  split at z <;> (try split at z) <;> (try split at z) <;> cases z
theorem ix_D : IxR X (rD X.K gIx) := by
  rintro value slice pins s σ H x y v u Q I rx ry ⟨μ, h, d1, d2, hr, n1, n2, q⟩ hsub
  cases n2 with
  | int i =>
    cases n1 with
    | @tup a xs l sa la za =>
      have q' : VPst X.K μ H (match L2.atI l i with | some d => R.ok d h | none => .no) Q := q
      split at q'
      · rename_i d e
        obtain ⟨w, e1, e2⟩ := la.atI e
        exact ix_tup value slice pins s σ H _ _ v u Q I rx ry ⟨a, xs, i, w, rfl, rfl, sa, e1, q'.now hr e2⟩ hsub
      · exact False.elim q'
    | @frl a xs l sa la za =>
      have q' : VPst X.K μ H (match L2.atI l i with | some d => R.ok d h | none => .no) Q := q
      split at q'
      · rename_i d e
        obtain ⟨w, e1, e2⟩ := la.atI e
        exact ix_list value slice pins s σ H _ _ v u Q I rx ry ⟨a, xs, i, w, rfl, rfl, sa.sq, e1, q'.now hr e2⟩ hsub
      · exact False.elim q'
    | str z hz =>
      have q' : VPst X.K μ H (match L2.atI z.cps.toList i with | some c => R.ok (.str ⟨#[c]⟩) h | none => .no) Q := q
      split at q'
      · rename_i c e
        refine ix_str value slice pins s σ H _ _ v u Q I rx ry ⟨z, i, c, rfl, rfl, hz.line, e, q'.now hr (.str _ ⟨by show 1 ≤ strMax; decide, ?_⟩)⟩ hsub
        exact strOk_of (l := [c]) fun c' hc => by
          rw [List.mem_singleton.mp hc]
          exact strOk_mem hz.2 (atI_mem e)
      · exact False.elim q'
    | @obj j a e0 =>
      have q' : VPst X.K μ H (match h[j]? with
        | some (.lst l) => match L2.atI l i with
          | some d => R.ok d h
          | none => .no
        | _ => .no) Q := q
      split at q'
      · rename_i l el
        obtain ⟨b, xs, g1, g2, g3, g4⟩ := hr.lst el
        rw [e0] at g1; cases g1
        split at q'
        · rename_i d e
          obtain ⟨w, e1, e2⟩ := g3.atI e
          exact ix_list value slice pins s σ H _ _ v u Q I rx ry ⟨a, xs, i, w, rfl, rfl, .of g2, e1, q'.now hr e2⟩ hsub
        · exact False.elim q'
      · exact False.elim q'
    | _ => exact False.elim q
  | _ => cases n1 <;> exact False.elim q
end
/-! ### slices -/
def cutD {α : Type} (l : List α) (lo hi : Option Int) : List α := (l.drop (HT.sIx l.length 0 lo)).take (HT.sIx l.length l.length hi - HT.sIx l.length 0 lo)
def gSlc : D → Option Int → Option Int → DHp → R D
  | .tup l, lo, hi, h => .ok (.tup (cutD l lo hi)) h
  | .frl l, lo, hi, h => .ok (.obj h.length) (h ++ [.lst (cutD l lo hi)])
  | .str z, lo, hi, h => .ok (.str (cutS z lo hi)) h
  | .obj j, lo, hi, h => match h[j]? with
    | some (.lst l) => .ok (.obj h.length) (h ++ [.lst (cutD l lo hi)])
    | _ => .no
  | _, _, _, _ => .no
theorem cutD_length {α : Type} (l : List α) (lo hi : Option Int) : (cutD l lo hi).length ≤ l.length := by
  unfold cutD
  rw [List.length_take, List.length_drop]
  omega
theorem cutD_whole {α : Type} {l : List α} {lo hi : Option Int} (h : HT.sIx l.length 0 lo = 0 ∧ HT.sIx l.length l.length hi = l.length) : cutD l lo hi = l := by
  unfold cutD
  rw [h.1, h.2]; simp
section
variable {K : Fg} {μ : List Addr} {H : Hp} {X : Cx}
theorem DnL.cut {vs : List V} {ds : List D} (h : DnL K μ H vs ds) (lo hi : Option Int) : DnL K μ H (cutV vs lo hi) (cutD ds lo hi) := by
  unfold cutV cutD
  rw [h.length]
  exact (h.drop _).take _
theorem ne_Slc : ∀ d l u h e h', gSlc d l u h ≠ .ex e h' := by
  intro d l u h e h' z
  unfold gSlc at z
  split at z <;> (try split at z) <;> cases z
theorem sl_D : SlR X (rSlD X.K gSlc) := by
  rintro pins s σ H x v vl vu lo hi sl Q I rx hs pl pu ⟨μ, h, d, hr, n, q⟩
  cases n with
  | @tup a xs l sa la za =>
    refine sl_tupA pins s σ H _ v vl vu lo hi sl Q I rx hs pl pu ⟨a, xs, rfl, sa, fun hw => ?_, fun _ p np => ?_⟩
    · rw [la.length] at hw
      have q' : VPst X.K μ H (.ok (.tup (cutD l lo hi)) h) Q := q
      rw [cutD_whole hw] at q'
      exact q'.now hr (.tup sa la za)
    · exact VPst.new_tup q hr (la.cut lo hi) (Nat.le_trans (cutD_length _ _ _) za) np
  | @frl a xs l sa la za =>
    exact sl_list pins s σ H _ v vl vu lo hi sl Q I rx hs pl pu ⟨a, xs, rfl, sa.sq, fun p np => VPst.new_lst q hr (la.cut lo hi) (Nat.le_trans (cutD_length _ _ _) za) np⟩
  | str z hz => exact sl_str pins s σ H _ v vl vu lo hi sl Q I rx hs pl pu ⟨z, rfl, hz.line, VPst.now q hr (.str _ (sOk_cut hz lo hi))⟩
  | @obj j a e0 =>
    have q' : VPst X.K μ H (match h[j]? with
      | some (.lst l) => R.ok (.obj h.length) (h ++ [.lst (cutD l lo hi)])
      | _ => .no) Q := q
    split at q'
    · rename_i l el
      obtain ⟨b, xs, g1, g2, g3, g4⟩ := hr.lst el
      rw [e0] at g1; cases g1
      exact sl_list pins s σ H _ v vl vu lo hi sl Q I rx hs pl pu ⟨a, xs, rfl, .of g2, fun p np => VPst.new_lst q' hr (g3.cut lo hi) (Nat.le_trans (cutD_length _ _ _) g4) np⟩
    · exact False.elim q'
  | non => exact False.elim q
  | bl b => exact False.elim q
  | int b => exact False.elim q
  | ty b => exact False.elim q
  | exc b => exact False.elim q
end
/-! ### built-ins -/
def gLen : List D → DHp → R D
  | [.tup l], h => .ok (.int l.length) h
  | [.frl l], h => .ok (.int l.length) h
  | [.str z], h => .ok (.int z.length) h
  | [.obj j], h => match h[j]? with
    | some (.lst l) => .ok (.int l.length) h
    | _ => .no
  | _, _ => .no
def gInt : List D → DHp → R D
  | [.int i], h => .ok (.int i) h
  | [.bl k], h => .ok (.int (if k then 1 else 0)) h
  | _, _ => .no
def gAbs : List D → DHp → R D
  | [.int i], h => .ok (.int (if i < 0 then -i else i)) h
  | _, _ => .no
def gMax2 : List D → DHp → R D
  | [.int i, .int j], h => .ok (.int (if j > i then j else i)) h
  | _, _ => .no
def gMin2 : List D → DHp → R D
  | [.int i, .int j], h => .ok (.int (if j < i then j else i)) h
  | _, _ => .no
def gStr : List D → DHp → R D
  | [.int i], h => if i.natAbs.log2 < 1920 ∧ sOk (toString i) then .ok (.str (toString i)) h else .no
  | _, _ => .no
def gGcd : List D → DHp → R D
  | [.int a, .int b], h => .ok (.int ((Nat.gcd a.natAbs b.natAbs : Nat) : Int)) h
  | _, _ => .no
def lcmOk (a b : Int) : Prop := a.natAbs < 2 ^ 13000 ∧ b.natAbs < 2 ^ 13000
instance (a b : Int) : Decidable (lcmOk a b) := by unfold lcmOk; infer_instance
def gLcm : List D → DHp → R D
  | [.int a, .int b], h => if lcmOk a b then .ok (.int ((Nat.lcm a.natAbs b.natAbs : Nat) : Int)) h else .no
  | _, _ => .no
def gList : List D → DHp → R D
  | [.tup l], h => .ok (.obj h.length) (h ++ [.lst l])
  | [.frl l], h => .ok (.obj h.length) (h ++ [.lst l])
  | [.obj j], h => match h[j]? with
    | some (.lst l) => .ok (.obj h.length) (h ++ [.lst l])
    | _ => .no
  | _, _ => .no
def gTuple : List D → DHp → R D
  | [.tup l], h => .ok (.tup l) h
  | [.frl l], h => .ok (.tup l) h
  | [.obj j], h => match h[j]? with
    | some (.lst l) => .ok (.tup l) h
    | _ => .no
  | _, _ => .no
inductive Kd where
  | non | bl | int | str | tup | lst | dct
  deriving DecidableEq
def kd : D → DHp → Option Kd
  | .non, _ => some .non
  | .bl _, _ => some .bl
  | .int _, _ => some .int
  | .str _, _ => some .str
  | .tup _, _ => some .tup
  | .frl _, _ => some .lst
  | .obj j, h => match h[j]? with
    | some (.lst _) => some .lst
    | some (.dK _) => some .dct
    | some (.dT _) => some .dct
    | none => none
  | _, _ => none
def kdN : Kd → String
  | .non => "NoneType" | .bl => "bool" | .int => "int" | .str => "str" | .tup => "tuple" | .lst => "list" | .dct => "dict"
def isK (T : String) (k : Kd) : Option Bool :=
  if T = "int" then some (k == .int || k == .bl) else if T = "bool" then some (k == .bl) else if T = "str" then some (k == .str) else if T = "tuple" then some (k == .tup) else if T = "list" then some (k == .lst) else if T = "dict" then some (k == .dct) else none
def gIsi : List D → DHp → R D
  | [d, .ty T], h => match kd d h with
    | some k => match isK T k with
      | some b => .ok (.bl b) h
      | none => .no
    | none => .no
  | _, _ => .no
section
variable {X : Cx}
theorem ne_Len : NoExL gLen := by intro a h e h' z; unfold gLen at z; split at z <;> (try split at z) <;> cases z
theorem ne_Int : NoExL gInt := by intro a h e h' z; unfold gInt at z; split at z <;> (try split at z) <;> cases z
theorem ne_Abs : NoExL gAbs := by intro a h e h' z; unfold gAbs at z; split at z <;> (try split at z) <;> cases z
theorem ne_Max2 : NoExL gMax2 := by intro a h e h' z; unfold gMax2 at z; split at z <;> (try split at z) <;> cases z
theorem ne_Min2 : NoExL gMin2 := by intro a h e h' z; unfold gMin2 at z; split at z <;> (try split at z) <;> cases z
theorem ne_Str : NoExL gStr := by intro a h e h' z; unfold gStr at z; split at z <;> (try split at z) <;> cases z
theorem ne_Gcd : NoExL gGcd := by intro a h e h' z; unfold gGcd at z; split at z <;> (try split at z) <;> cases z
theorem ne_Lcm : NoExL gLcm := by intro a h e h' z; unfold gLcm at z; split at z <;> (try split at z) <;> cases z
theorem ne_List : NoExL gList := by intro a h e h' z; unfold gList at z; split at z <;> (try split at z) <;> cases z
theorem ne_Tuple : NoExL gTuple := by intro a h e h' z; unfold gTuple at z; split at z <;> (try split at z) <;> cases z
theorem ne_Isi : NoExL gIsi := by intro a h e h' z; unfold gIsi at z; split at z <;> (try split at z) <;> (try split at z) <;> cases z
theorem DnL.one {K : Fg} {μ : List Addr} {H : Hp} {xs : List V} {d : D} (h : DnL K μ H xs [d]) : ∃ v, xs = [v] ∧ Dn K μ H v d := by
  cases h with | cons a t => cases t; exact ⟨_, rfl, a⟩
theorem DnL.two {K : Fg} {μ : List Addr} {H : Hp} {xs : List V} {d e : D} (h : DnL K μ H xs [d, e]) : ∃ v w, xs = [v, w] ∧ Dn K μ H v d ∧ Dn K μ H w e := by
  cases h with | cons a t => obtain ⟨w, rfl, b⟩ := t.one; exact ⟨_, w, rfl, a, b⟩
theorem cr_len : CallR X (.builtin "len") (rDL X.K gLen) := by
  rintro pins s σ H xs us Q I r ⟨μ, h, ds, hr, n, q⟩
  unfold gLen at q
  split at q
  · obtain ⟨v, rfl, n1⟩ := n.one
    cases n1 with
    | tup sa la za => exact call_len pins s σ H _ us Q I r ⟨_, _, rfl, .inr ⟨_, sa, rfl⟩, by rw [la.length]; exact VPst.now q hr (.int _)⟩
  · obtain ⟨v, rfl, n1⟩ := n.one
    cases n1 with
    | frl sa la za => exact call_len pins s σ H _ us Q I r ⟨_, _, rfl, .inl ⟨_, sa.sq, rfl⟩, by rw [la.length]; exact VPst.now q hr (.int _)⟩
  · obtain ⟨v, rfl, n1⟩ := n.one
    cases n1 with
    | str z hz => exact call_len pins s σ H _ us Q I r ⟨_, _, rfl, ⟨hz.line, rfl⟩, VPst.now q hr (.int _)⟩
  · obtain ⟨v, rfl, n1⟩ := n.one
    cases n1 with
    | obj e0 =>
      split at q
      · rename_i l el
        obtain ⟨b, xs, g1, g2, g3, g4⟩ := hr.lst el
        rw [e0] at g1; cases g1
        exact call_len pins s σ H _ us Q I r ⟨_, _, rfl, .inl ⟨_, .of g2, rfl⟩, by rw [g3.length]; exact VPst.now q hr (.int _)⟩
      · exact False.elim q
  · exact False.elim q
theorem cr_int : CallR X (.type "int") (rDL X.K gInt) := by
  rintro pins s σ H xs us Q I r ⟨μ, h, ds, hr, n, q⟩
  unfold gInt at q
  split at q
  · obtain ⟨v, rfl, n1⟩ := n.one
    cases n1
    exact call_int1 pins s σ H _ us Q I r (.inl ⟨_, rfl, VPst.now q hr (.int _)⟩)
  · obtain ⟨v, rfl, n1⟩ := n.one
    cases n1
    exact call_int1 pins s σ H _ us Q I r (.inr ⟨_, rfl, VPst.now q hr (.int _)⟩)
  · exact False.elim q
theorem cr_abs : CallR X (.builtin "abs") (rDL X.K gAbs) := by
  rintro pins s σ H xs us Q I r ⟨μ, h, ds, hr, n, q⟩
  unfold gAbs at q
  split at q
  · obtain ⟨v, rfl, n1⟩ := n.one
    cases n1
    exact call_abs pins s σ H _ us Q I r ⟨_, rfl, VPst.now q hr (.int _)⟩
  · exact False.elim q
theorem cr_max2 (hc : X.calm = true) : CallR X (.builtin "max") (rDL X.K gMax2) := by
  rintro pins s σ H xs us Q I r ⟨μ, h, ds, hr, n, q⟩
  unfold gMax2 at q
  split at q
  · obtain ⟨v, w, rfl, n1, n2⟩ := n.two
    cases n1
    cases n2
    exact call_max2 hc pins s σ H _ us Q I r ⟨_, _, rfl, VPst.now q hr (.int _)⟩
  · exact False.elim q
theorem cr_min2 (hc : X.calm = true) : CallR X (.builtin "min") (rDL X.K gMin2) := by
  rintro pins s σ H xs us Q I r ⟨μ, h, ds, hr, n, q⟩
  unfold gMin2 at q
  split at q
  · obtain ⟨v, w, rfl, n1, n2⟩ := n.two
    cases n1
    cases n2
    exact call_min2 hc pins s σ H _ us Q I r ⟨_, _, rfl, VPst.now q hr (.int _)⟩
  · exact False.elim q
theorem cr_str : CallR X (.type "str") (rDL X.K gStr) := by
  rintro pins s σ H xs us Q I r ⟨μ, h, ds, hr, n, q⟩
  unfold gStr at q
  split at q
  · obtain ⟨v, rfl, n1⟩ := n.one
    cases n1
    split at q
    · rename_i z
      exact call_str_int pins s σ H _ us Q I r ⟨_, rfl, z.1, VPst.now q hr (.str _ z.2)⟩
    · exact False.elim q
  · exact False.elim q
theorem cr_gcdD : CallR X (.builtin "math.gcd") (rDL X.K gGcd) := by
  rintro pins s σ H xs us Q I r ⟨μ, h, ds, hr, n, q⟩
  unfold gGcd at q
  split at q
  · obtain ⟨v, w, rfl, n1, n2⟩ := n.two
    cases n1
    cases n2
    exact cr_gcd pins s σ H _ us Q I r ⟨_, _, rfl, VPst.now q hr (.int _)⟩
  · exact False.elim q
theorem lcm_le (a b : Nat) (ha : a < 2 ^ 13000) (hb : b < 2 ^ 13000) : Nat.lcm a b < 2 ^ 26000 := by
  rcases Nat.eq_zero_or_pos a with h | h
  · subst h; rw [Nat.lcm_zero_left]; exact Nat.two_pow_pos _
  · have h1 : Nat.lcm a b ≤ a * b := Nat.div_le_self _ _
    have h2 : a * b < 2 ^ 13000 * 2 ^ 13000 := Nat.mul_lt_mul'' ha hb
    rw [← Nat.pow_add] at h2
    exact Nat.lt_of_le_of_lt h1 h2
theorem log_lt {n k : Nat} (h0 : 0 < k) (h : n < 2 ^ k) : n.log2 < k := PySem.Flt.log2_lt_of h0 h
theorem mg_lcmW {prog : Program} {w : World} {A : Around} {E : Value → Shared → Prop} {s : Shared} {Q : Value → Shared → Prop} {a b : Int} {t u : Tok} (ho : lcmOk a b)
    (h : Q (.int ((Nat.lcm a.natAbs b.natAbs : Nat) : Int) s.toks) { s with toks := s.toks + 1 }) : wpAny (model prog w) A (call (.builtin "math.lcm") [.int a t, .int b u]) Q E s := by
  have e1 : Nat.lcm 1 a.natAbs = a.natAbs := Nat.lcm_one_left _
  have p1 : (1 : Nat) < 2 ^ 13000 := Nat.one_lt_two_pow (by decide)
  have h1 : (max 1 a.natAbs).log2 < 13000 := log_lt (by decide) (Nat.max_lt.mpr ⟨p1, ho.1⟩)
  have h2 : (max a.natAbs b.natAbs).log2 < 13000 := log_lt (by decide) (Nat.max_lt.mpr ⟨ho.1, ho.2⟩)
  have h3 : (Nat.lcm a.natAbs b.natAbs).log2 < 26000 := log_lt (by decide) (lcm_le _ _ ho.1 ho.2)
  have hsz : ((((Nat.lcm 1 a.natAbs).lcm b.natAbs : Nat) : Int)).natAbs.log2 < bitsLine := by
    rw [e1, Int.natAbs_natCast]
    exact Nat.lt_of_lt_of_le h3 (by decide)
  refine PySem.call_function_meets PySem.W.MGF.kind_lcm PySem.W.MGF.plain_lcm PySem.W.MGF.entry_lcm (PySem.W.MGF.args_lcm _ _) (PySem.W.mg_run_lcm a t b u (by omega) (by omega) hsz).meets ?_
  rw [e1]; exact h
theorem cr_lcmD : CallR X (.builtin "math.lcm") (rDL X.K gLcm) := by
  rintro pins s σ H xs us Q I r ⟨μ, h, ds, hr, n, q⟩
  unfold gLcm at q
  split at q
  · obtain ⟨v, w, rfl, n1, n2⟩ := n.two
    cases n1
    cases n2
    split at q
    · rename_i z
      obtain ⟨t, u, rfl⟩ := Vals.int2 r
      exact mg_lcmW z ⟨.int _, H, I.tok _, ⟨_, rfl⟩, VPst.now q hr (.int _)⟩
    · exact False.elim q
  · exact False.elim q
theorem cr_list : CallR X (.type "list") (rDL X.K gList) := by
  rintro pins s σ H xs us Q I r ⟨μ, h, ds, hr, n, q⟩
  unfold gList at q
  split at q
  · obtain ⟨v, rfl, n1⟩ := n.one
    cases n1 with
    | tup sa la za => exact call_list_of pins s σ H _ us Q I r ⟨_, _, rfl, .inr sa, fun p np => VPst.new_lst q hr la za np⟩
  · obtain ⟨v, rfl, n1⟩ := n.one
    cases n1 with
    | frl sa la za => exact call_list_of pins s σ H _ us Q I r ⟨_, _, rfl, .inl sa.sq, fun p np => VPst.new_lst q hr la za np⟩
  · obtain ⟨v, rfl, n1⟩ := n.one
    cases n1 with
    | obj e0 =>
      split at q
      · rename_i l el
        obtain ⟨b, xs, g1, g2, g3, g4⟩ := hr.lst el
        rw [e0] at g1; cases g1
        exact call_list_of pins s σ H _ us Q I r ⟨_, _, rfl, .inl (.of g2), fun p np => VPst.new_lst q hr g3 g4 np⟩
      · exact False.elim q
  · exact False.elim q
theorem cr_tuple : CallR X (.type "tuple") (rDL X.K gTuple) := by
  rintro pins s σ H xs us Q I r ⟨μ, h, ds, hr, n, q⟩
  unfold gTuple at q
  split at q
  · obtain ⟨v, rfl, n1⟩ := n.one
    cases n1 with
    | tup sa la za => exact call_tuple_of pins s σ H _ us Q I r ⟨_, _, rfl, .inr ⟨sa, VPst.now q hr (.tup sa la za)⟩⟩
  · obtain ⟨v, rfl, n1⟩ := n.one
    cases n1 with
    | frl sa la za => exact call_tuple_of pins s σ H _ us Q I r ⟨_, _, rfl, .inl ⟨sa.sq, fun p np => VPst.new_tup q hr la za np⟩⟩
  · obtain ⟨v, rfl, n1⟩ := n.one
    cases n1 with
    | obj e0 =>
      split at q
      · rename_i l el
        obtain ⟨b, xs, g1, g2, g3, g4⟩ := hr.lst el
        rw [e0] at g1; cases g1
        exact call_tuple_of pins s σ H _ us Q I r ⟨_, _, rfl, .inl ⟨.of g2, fun p np => VPst.new_tup q hr g3 g4 np⟩⟩
      · exact False.elim q
  · exact False.elim q
theorem kit_tab : ∀ k ∈ [Kd.non, .bl, .int, .str, .tup, .lst, .dct], ∀ T ∈ ["int", "bool", "str", "tuple", "list", "dict"], kitB (kdN k) T = isK T k := by decide +kernel
theorem kit_isK {T : String} {k : Kd} {b : Bool} (h : isK T k = some b) : kitB (kdN k) T = some b := by
  have hk : k ∈ [Kd.non, .bl, .int, .str, .tup, .lst, .dct] := by cases k <;> simp
  have hT : T ∈ ["int", "bool", "str", "tuple", "list", "dict"] := by
    unfold isK at h
    repeat' (split at h)
    all_goals first | cases h; done | (rename_i e; subst e; simp) | skip
    all_goals simp_all
  rw [kit_tab k hk T hT]; exact h
theorem tyx_of {K : Fg} {μ : List Addr} {H : Hp} {h : DHp} (hr : HR K μ H h) {v : V} {d : D} (n : Dn K μ H v d) {k : Kd} (e : kd d h = some k) : TyX K H v (.type (kdN k)) := by
  cases n with
  | non => cases e; exact .base .non
  | bl b => cases e; exact .base (.bl b)
  | int i => cases e; exact .base (.int i)
  | str x => cases e; exact .base (.str x)
  | tup s l z =>
    cases e
    rcases s with (s | ⟨o, s⟩) | ⟨o, its, n, h1, h2, _⟩
    · exact .base (.tup s)
    · exact .fTuple s
    · exact .kTuple h1 h2
  | frl s l z =>
    cases e
    rcases s with ⟨o, s⟩ | ⟨o, its, n, h1, h2, _⟩
    · exact .base (.frz s)
    · exact .kList h1 h2
  | @obj j a e0 =>
    have e' : (match h[j]? with | some (.lst _) => some Kd.lst | some (.dK _) => some .dct | some (.dT _) => some .dct | none => none) = some k := e
    split at e'
    · rename_i l el
      cases e'
      obtain ⟨b, g1, xs, g2, _⟩ := hr.ob _ _ el
      rw [e0] at g1; cases g1
      exact .base (.lst g2)
    · rename_i l el
      cases e'
      obtain ⟨b, g1, xs, g2, _⟩ := hr.ob _ _ el
      rw [e0] at g1; cases g1
      exact .base (.dK g2)
    · rename_i l el
      cases e'
      obtain ⟨b, g1, xs, g2, _⟩ := hr.ob _ _ el
      rw [e0] at g1; cases g1
      exact .base (.dT g2)
    · cases e'
  | ty n => cases e
  | exc v => cases e
theorem cr_isi : CallR X (.builtin "isinstance") (rDL X.K gIsi) := by
  rintro pins s σ H xs us Q I r ⟨μ, h, ds, hr, n, q⟩
  unfold gIsi at q
  split at q
  · obtain ⟨v, w, rfl, n1, n2⟩ := n.two
    cases n2
    split at q
    · rename_i k ek
      split at q
      · rename_i b eb
        exact call_isi pins s σ H _ us Q I r ⟨v, _, _, _, b, rfl, .ty _, tyx_of hr n1 ek, kit_ty (kit_isK eb), VPst.now q hr (.bl _)⟩
      · exact False.elim q
    · exact False.elim q
  · exact False.elim q
end
end DL
end

section
set_option Elab.async false
set_option linter.all false
set_option maxRecDepth 100000
/-! DL5: statements. -/
namespace DL
open PySem PySem.Spec PyProof.Rows
open L2 hiding St
def dSeq (f g : DSt → DHp → SR) : DSt → DHp → SR := fun sd h => match f sd h with
  | .nx sd' h' => g sd' h'
  | r => r
def dSkip : DSt → DHp → SR := fun sd h => .nx sd h
def dBrk : DSt → DHp → SR := fun sd h => .bk sd h
def dCnt : DSt → DHp → SR := fun sd h => .ct sd h
def dSet (i : Nat) (f : DSt → DHp → R D) : DSt → DHp → SR := fun sd h => sbind (f sd h) sd fun d h' => .nx (sd.set i (some d)) h'
def dDrop (f : DSt → DHp → R D) : DSt → DHp → SR := fun sd h => sbind (f sd h) sd fun _ h' => .nx sd h'
def dRet (f : DSt → DHp → R D) : DSt → DHp → SR := fun sd h => sbind (f sd h) sd fun d h' => .rt d h'
def dRetN : DSt → DHp → SR := fun _ h => .rt .non h
def dIf (c : DSt → DHp → R Bool) (f g : DSt → DHp → SR) : DSt → DHp → SR := fun sd h => sbind (c sd h) sd fun b h1 => if b = true then f sd h1 else g sd h1
def dNever : DSt → DHp → SR := fun _ _ => .no
section
variable {X : Cx} {p : Pm} {st : Stmt} {rest : List Stmt} {f g : DSt → DHp → SR} {e : Expr} {fe : DSt → DHp → R D} {pos : Pos}
theorem dss_nil : DSs p X [] dSkip := ⟨pss_nil.con fun E σ H q => by
  obtain ⟨μ, sd, h, hs, hS, hr, q⟩ := q
  exact q μ σ H (.refl _ _) hr hs hS⟩
theorem dss_one (h : DS p X st f) : DSs p X [st] f := ⟨pss_one h.ps⟩
theorem dss_cons (h1 : DS p X st f) (h2 : DSs p X rest g) : DSs p X (st :: rest) (dSeq f g) := by
  refine ⟨(pss_cons h1.ps h2.ps).con fun E σ H q => ?_⟩
  obtain ⟨μ, sd, h, hs, hS, hr, q⟩ := q
  refine ⟨μ, sd, h, hs, hS, hr, ?_⟩
  unfold dSeq at q
  cases e : f sd h with
  | nx sd' h' =>
    rw [e] at q
    exact fun μ' σ' H' x hr' hs' hS' => ⟨μ', sd', h', hs', hS', hr', SPst.ext x q⟩
  | rt d h' => rw [e] at q; exact q
  | bk d h' => rw [e] at q; exact q
  | ct d h' => rw [e] at q; exact q
  | ex d sd' h' => rw [e] at q; exact q
  | no => rw [e] at q; exact q
theorem ds_pass : DS p X (.Pass pos) dSkip := ⟨ps_pass.con fun E σ H q => by
  obtain ⟨μ, sd, h, hs, hS, hr, q⟩ := q
  exact q μ σ H (.refl _ _) hr hs hS⟩
theorem ds_brk : DS p X (.Break pos) dBrk := ⟨ps_break.con fun E σ H q => by
  obtain ⟨μ, sd, h, hs, hS, hr, q⟩ := q
  exact q μ σ H (.refl _ _) hr hs hS⟩
theorem ds_cnt : DS p X (.Continue pos) dCnt := ⟨ps_continue.con fun E σ H q => by
  obtain ⟨μ, sd, h, hs, hS, hr, q⟩ := q
  exact q μ σ H (.refl _ _) hr hs hS⟩
theorem ds_never : DS p X st dNever := ⟨ps_never.con fun E σ H q => by
  obtain ⟨μ, sd, h, hs, hS, hr, q⟩ := q
  exact q⟩
theorem ds_doc {x j pos pos'} : DS p X (.Expr (.Constant (.str x) j pos) pos') dSkip := ⟨ps_doc.con fun E σ H q => by
  obtain ⟨μ, sd, h, hs, hS, hr, q⟩ := q
  exact q μ σ H (.refl _ _) hr hs hS⟩
theorem ds_expr (he : DE p X e fe) (hsw : swapsWith e none pos.line X.env = pure false := by rfl) : DS p X (.Expr e pos) (dDrop fe) := by
  refine ⟨(ps_expr he.pe hsw).con fun E σ H q => ?_⟩
  obtain ⟨μ, sd, h, hs, hS, hr, q⟩ := q
  refine ⟨μ, sd, h, hs, hS, hr, (q.fst hs (fun _ => hr.mu) hS).imp fun x H1 ⟨μ1, h1, d1, e1, r1, n1, q1⟩ => ?_⟩
  exact q1 μ1 σ H1 (.refl _ _) r1 (hs.ext e1 fun _ => hr.mu) (p.st e1 (fun _ => hr.mu) hS)
theorem ds_ret (he : DE p X e fe) : DS p X (.Return (some e) pos) (dRet fe) := by
  refine ⟨(ps_ret he.pe).con fun E σ H q => ?_⟩
  obtain ⟨μ, sd, h, hs, hS, hr, q⟩ := q
  refine ⟨μ, sd, h, hs, hS, hr, (q.fst hs (fun _ => hr.mu) hS).imp fun x H1 ⟨μ1, h1, d1, e1, r1, n1, q1⟩ => ?_⟩
  exact q1 μ1 x H1 (.refl _ _) r1 n1
theorem ds_retN : DS p X (.Return none pos) dRetN := ⟨ps_retN.con fun E σ H q => by
  obtain ⟨μ, sd, h, hs, hS, hr, q⟩ := q
  exact q μ _ H (.refl _ _) hr .non⟩
theorem ds_if {c : Expr} {a b : List Stmt} {fc : DSt → DHp → R Bool} (hc : DT p X c fc) (ha : DSs p X a f) (hb : DSs p X b g) : DS p X (.If c a b pos) (dIf fc f g) := by
  refine ⟨(ps_if hc.pt ha.ps hb.ps).con fun E σ H q => ?_⟩
  obtain ⟨μ, sd, h, hs, hS, hr, q⟩ := q
  refine ⟨μ, sd, h, hs, hS, hr, (q.fst hs (fun _ => hr.mu) hS).imp fun x H1 ⟨μ1, h1, d1, e1, r1, n1, q1⟩ => ?_⟩
  have n2 : x = d1 := n1
  subst n2
  cases x with
  | true => exact ⟨μ1, sd, h1, hs.ext e1 fun _ => hr.mu, p.st e1 (fun _ => hr.mu) hS, r1, q1⟩
  | false => exact ⟨μ1, sd, h1, hs.ext e1 fun _ => hr.mu, p.st e1 (fun _ => hr.mu) hS, r1, q1⟩
/-- the slots that a statement may store -/
def SetOk (p : Pm) (i : Nat) : Prop := ∀ σ v μ H, p.S σ μ H → p.S (σ.set i (some v)) μ H
theorem ds_set {i : Nat} {x : Str} {pos' : Pos} (hN : X.N.Nodup) (hi : X.N[i]? = some x) (hx : Loc X.env.scope x) (he : DE p X e fe) (hsw : swapsWith e (some (.Name x pos')) pos.line X.env = pure false := by rfl)
    (hf : X.fn x = true ∨ X.env.scope.names.lookup x = some .local := by first | exact .inl rfl | exact .inr rfl | assumption) (hO : SetOk p i := by first | exact fun _ _ _ _ _ => trivial | assumption) : DS p X (.Assign [.Name x pos'] e pos) (dSet i fe) := by
  refine ⟨(ps_set hN hi hx he.pe hsw hf).con fun E σ H q => ?_⟩
  obtain ⟨μ, sd, h, hs, hS, hr, q⟩ := q
  refine ⟨μ, sd, h, hs, hS, hr, (q.fst hs (fun _ => hr.mu) hS).imp fun x H1 ⟨μ1, h1, d1, e1, r1, n1, q1⟩ => ?_⟩
  exact q1 μ1 _ H1 (.refl _ _) r1 ((hs.ext e1 fun _ => hr.mu).set i n1) (hO _ _ _ _ (p.st e1 (fun _ => hr.mu) hS))
/-- x op= e -/
def dAug (i : Nat) (g : D → D → DHp → R D) (fe : DSt → DHp → R D) : DSt → DHp → SR := fun sd h => match sd[i]? with
  | some (some d) => sbind ((fe sd h).bind fun e h1 => g d e h1) sd fun z h2 => .nx (sd.set i (some z)) h2
  | _ => .no
theorem ds_aug {i : Nat} {x : Str} {op : Operator} {pos' : Pos} {g : D → D → DHp → R D} (hN : X.N.Nodup) (hi : X.N[i]? = some x) (hx : Loc X.env.scope x) (he : DE p X e fe) (ho : OpR X (inplaceOp op) (rD X.K g)) (ng : NoEx2 g)
    (hf : X.fn x = true ∨ X.env.scope.names.lookup x = some .local := by first | exact .inl rfl | exact .inr rfl | assumption) (hO : SetOk p i := by first | exact fun _ _ _ _ _ => trivial | assumption) : DS p X (.AugAssign (.Name x pos') op e pos) (dAug i g fe) := by
  refine ⟨(ps_aug (ti := rD X.K g) hN hi hx he.pe ho hf).con fun E σ H q => ?_⟩
  obtain ⟨μ, sd, h, hs, hS, hr, q⟩ := q
  unfold dAug at q
  split at q
  · rename_i d ed
    obtain ⟨v, ev, nv⟩ := hs.get ed
    refine ⟨v, ev, μ, sd, h, hs, hS, hr, ?_⟩
    have q' : Pst X.K p μ H σ (Dn X.K) ((fe sd h).bind fun e h1 => g d e h1) fun x H1 => ∃ μ1 h1 a, Ext μ H μ1 H1 ∧ HR X.K μ1 H1 h1 ∧ Dn X.K μ1 H1 x a ∧ SPst X.K p μ1 H1 (.nx (sd.set i (some a)) h1) E := q.fst hs (fun _ => hr.mu) hS
    refine q'.fst.imp fun y H1 ⟨μ1, h1, d1, e1, r1, n1, q1⟩ => ?_
    refine ⟨μ1, h1, d, d1, r1, nv.ext e1 fun _ => hr.mu, n1, Pst.v (p := p) (σ := σ) (q1.imp fun z H2 ⟨μ2, h2, d2, e2, r2, n2, q2⟩ => ?_) (ng _ _ _)⟩
    exact q2 μ2 _ H2 (.refl _ _) r2 ((hs.ext e2 fun _ => hr.mu).set i n2) (hO _ _ _ _ (p.st e2 (fun _ => hr.mu) hS))
  · exact q.elim
/-- a, b = e1, e2 -/
def dPar (i j : Nat) (fs : DSt → DHp → R (List D)) : DSt → DHp → SR := fun sd h => sbind (fs sd h) sd fun ds h1 => match ds with
  | [a, b] => .nx ((sd.set i (some a)).set j (some b)) h1
  | _ => .no
theorem ds_par {i j : Nat} {x y : Str} {a b : Expr} {fs : DSt → DHp → R (List D)} {px py pt : Pos} {kt k2 pt2} (hc : X.calm = true) (hN : X.N.Nodup) (hi : X.N[i]? = some x) (hj : X.N[j]? = some y) (hij : i ≠ j)
    (hx : X.env.scope.names.lookup x = some .local) (hy : X.env.scope.names.lookup y = some .local) (ha : DA p X [a, b] fs) (hw : swappedStores [.Tuple [.Name x px, .Name y py] kt pt] (.Tuple [a, b] k2 pt2) X.env = pure (some [x, y]))
    (hsw : swapsWithSole [.Tuple [.Name x px, .Name y py] kt pt] (.Tuple [a, b] k2 pt2) pos.line X.env = pure false := by rfl) (hO : SetOk p i := by first | exact fun _ _ _ _ _ => trivial | assumption) (hO2 : SetOk p j := by first | exact fun _ _ _ _ _ => trivial | assumption) :
    DS p X (.Assign [.Tuple [.Name x px, .Name y py] kt pt] (.Tuple [a, b] k2 pt2) pos) (dPar i j fs) := by
  refine ⟨(ps_par hc hN hi hj hij hx hy ha.pa hw hsw).con fun E σ H q => ?_⟩
  obtain ⟨μ, sd, h, hs, hS, hr, q⟩ := q
  refine ⟨μ, sd, h, hs, hS, hr, (q.fst hs (fun _ => hr.mu) hS).imp fun xs H1 ⟨μ1, h1, ds, e1, r1, n1, q1⟩ => ?_⟩
  split at q1
  · obtain ⟨v, w, rfl, m1, m2⟩ := n1.two
    exact ⟨v, w, rfl, q1 μ1 _ H1 (.refl _ _) r1 (((hs.ext e1 fun _ => hr.mu).set i m1).set j m2) (hO2 _ _ _ _ (hO _ _ _ _ (p.st e1 (fun _ => hr.mu) hS)))⟩
  · exact q1.elim
end
/-! ### targets -/
abbrev DTg := D → DSt → Option DSt
abbrev DTgs := List D → DSt → Option DSt
def rdgG (K : Fg) (p : Pm) (g : DTg) : TG := fun v σ H Q => ∃ μ sd h d sd', StR K μ H σ sd ∧ p.S σ μ H ∧ HR K μ H h ∧ Dn K μ H v d ∧ g d sd = some sd' ∧ ∀ σ', StR K μ H σ' sd' → p.S σ' μ H → Q σ' H
def rdgGs (K : Fg) (p : Pm) (g : DTgs) : TGs := fun vs σ H Q => ∃ μ sd h ds sd', StR K μ H σ sd ∧ p.S σ μ H ∧ HR K μ H h ∧ DnL K μ H vs ds ∧ g ds sd = some sd' ∧ ∀ σ', StR K μ H σ' sd' → p.S σ' μ H → Q σ' H
structure DG (p : Pm) (X : Cx) (t : Expr) (g : DTg) : Prop where
  pg : PG X t (rdgG X.K p g)
structure DGs (p : Pm) (X : Cx) (ts : List Expr) (g : DTgs) : Prop where
  pg : PGs X ts (rdgGs X.K p g)
def tgN (i : Nat) : DTg := fun d sd => some (sd.set i (some d))
def tgNil : DTgs := fun ds sd => match ds with
  | [] => some sd
  | _ => none
def tgCons (g : DTg) (gs : DTgs) : DTgs := fun ds sd => match ds with
  | d :: r => match g d sd with
    | some sd1 => gs r sd1
    | none => none
  | [] => none
def tgT (n : Nat) (gs : DTgs) : DTg := fun d sd => match d with
  | .tup l => if l.length = n then gs l sd else none
  | _ => none
section
variable {X : Cx} {p : Pm} {e : Expr} {es : List Expr} {fe : DSt → DHp → R D} {pos : Pos} {g : DTg} {gs : DTgs}
theorem _root_.L2.PG.con {t t' : TG} (h : PG X e t) (i : ∀ v σ H Q, t' v σ H Q → t v σ H Q) : PG X e t' := ⟨fun pins s σ H v u Q I r q => h.run pins s σ H v u Q I r (i _ _ _ _ q)⟩
theorem _root_.L2.PGs.con {t t' : TGs} (h : PGs X es t) (i : ∀ v σ H Q, t' v σ H Q → t v σ H Q) : PGs X es t' := ⟨fun pins s σ H v u Q I r q => h.run pins s σ H v u Q I r (i _ _ _ _ q)⟩
theorem dg_name {i : Nat} {x : Str} (hN : X.N.Nodup) (hi : X.N[i]? = some x) (hx : Loc X.env.scope x) (hf : X.fn x = true ∨ X.env.scope.names.lookup x = some .local := by first | exact .inl rfl | exact .inr rfl | assumption)
    (hO : SetOk p i := by first | exact fun _ _ _ _ _ => trivial | assumption) : DG p X (.Name x pos) (tgN i) := by
  refine ⟨(pg_name hN hi hx hf).con fun v σ H Q q => ?_⟩
  obtain ⟨μ, sd, h, d, sd', hs, hS, hr, n, eg, q⟩ := q
  cases eg
  exact q _ (hs.set i n) (hO _ _ _ _ hS)
theorem dgs_nil : DGs p X [] tgNil := by
  refine ⟨pgs_nil.con fun vs σ H Q q => ?_⟩
  obtain ⟨μ, sd, h, ds, sd', hs, hS, hr, n, eg, q⟩ := q
  cases n with
  | nil => cases eg; exact ⟨rfl, q _ hs hS⟩
  | cons a t => cases eg
theorem dgs_cons (h1 : DG p X e g) (h2 : DGs p X es gs) (hs : (assignEach (e :: es) X.env).map (·.2) = assign e X.env :: (assignEach es X.env).map (·.2) := by rfl) : DGs p X (e :: es) (tgCons g gs) := by
  refine ⟨(pgs_cons h1.pg h2.pg hs).con fun vs σ H Q q => ?_⟩
  obtain ⟨μ, sd, h, ds, sd', hs, hS, hr, n, eg, q⟩ := q
  cases n with
  | nil => cases eg
  | @cons v vs d ds a t =>
    have eg' : (match g d sd with | some sd1 => gs ds sd1 | none => none) = some sd' := eg
    split at eg'
    · rename_i sd1 e1
      exact ⟨v, vs, rfl, μ, sd, h, d, sd1, hs, hS, hr, a, e1, fun σ' hs' hS' => ⟨μ, sd1, h, ds, sd', hs', hS', hr, t, eg', q⟩⟩
    · cases eg'
theorem dg_tup {k : Nat} {n : Nat} (hc : X.calm = true) (h : DGs p X es gs) (hn : (assignEach es X.env).length = n := by rfl) (hst : (assignEach es X.env).findIdx? (·.1) = none := by rfl) : DG p X (.Tuple es k pos) (tgT n gs) := by
  refine ⟨(pg_tup hc h.pg hn hst).con fun v σ H Q q => ?_⟩
  obtain ⟨μ, sd, h, d, sd', hs, hS, hr, n1, eg, q⟩ := q
  cases n1 with
  | @tup a xs l sa la za =>
    have eg' : (if l.length = n then gs l sd else none) = some sd' := eg
    split at eg'
    · rename_i ln
      exact ⟨a, xs, rfl, sa, by rw [la.length]; exact ln, μ, sd, h, l, sd', hs, hS, hr, la, eg', q⟩
    · cases eg'
  | _ => cases eg
/-- target = value -/
def dAsg (g : DTg) (fe : DSt → DHp → R D) : DSt → DHp → SR := fun sd h => sbind (fe sd h) sd fun d h1 => match g d sd with
  | some sd1 => .nx sd1 h1
  | none => .no
theorem ds_asg {tg : Expr} (he : DE p X e fe) (hg : DG p X tg g) (hsw : swapsWithSole [tg] e pos.line X.env = pure false := by rfl) (hw : swappedStores [tg] e X.env = pure none := by rfl)
    (h1 : (assignEach [tg] X.env).map (·.2) = [assign tg X.env] := by rfl) : DS p X (.Assign [tg] e pos) (dAsg g fe) := by
  refine ⟨(ps_asg he.pe hg.pg hsw hw h1).con fun E σ H q => ?_⟩
  obtain ⟨μ, sd, h, hs, hS, hr, q⟩ := q
  refine ⟨μ, sd, h, hs, hS, hr, (q.fst hs (fun _ => hr.mu) hS).imp fun x H1 ⟨μ1, h1, d1, e1, r1, n1, q1⟩ => ?_⟩
  split at q1
  · rename_i sd1 eg
    exact ⟨μ1, sd, h1, d1, sd1, hs.ext e1 fun _ => hr.mu, p.st e1 (fun _ => hr.mu) hS, r1, n1, eg, fun σ' hs' hS' => q1 μ1 σ' H1 (.refl _ _) r1 hs' hS'⟩
  · exact q1.elim
end
/-! ### o[i] = v -/
def gSet : D → D → D → DHp → Option DHp
  | .obj n, .int k, v, h => match h[n]? with
    | some (.lst l) => match ixN l.length k with
      | some j => some (h.set n (.lst (l.set j v)))
      | none => none
    | _ => none
  | _, _, _, _ => none
def dSto (fv fo fi : DSt → DHp → R D) : DSt → DHp → SR := fun sd h => sbind ((fv sd h).bind fun v h1 => (fo sd h1).bind fun o h2 => (fi sd h2).bind fun i h3 => match gSet o i v h3 with
  | some h4 => R.ok D.non h4
  | none => R.no) sd fun _ h4 => .nx sd h4
section
variable {X : Cx} {p : Pm} {e o i : Expr} {fv fo fi : DSt → DHp → R D} {pos pos' : Pos}
theorem ds_sto (hv : DE p X e fv) (ho : DE p X o fo) (hi : DE p X i fi)
    (ha : ∀ v, assign (.Subscript o i pos') X.env v = (do
      let ov ← holding [v] (eval o X.env)
      let iv ← holding [v, ov] (eval i X.env)
      standAt pos'
      holding [v, ov, iv] (setItem ov iv v)
      release [v, ov, iv] []) := by intro _; rfl)
    (hsw : swapsWithSole [.Subscript o i pos'] e pos.line X.env = pure false := by rfl) (hw : swappedStores [.Subscript o i pos'] e X.env = pure none := by rfl)
    (h1 : (assignEach [.Subscript o i pos'] X.env).map (·.2) = [assign (.Subscript o i pos') X.env] := by rfl) : DS p X (.Assign [.Subscript o i pos'] e pos) (dSto fv fo fi) := by
  refine ⟨(ps_asg hv.pe (pg_sub ho.pe hi.pe set_list ha) hsw hw h1).con fun E σ H q => ?_⟩
  obtain ⟨μ, sd, h, hs, hS, hr, q⟩ := q
  unfold dSto at q
  have q' := SPst.fst (rel := fun _ _ (_ : V) (_ : D) => True) hs (fun _ => hr.mu) hS q
  refine ⟨μ, sd, h, hs, hS, hr, q'.fst.imp fun v H1 ⟨μ1, h1, d1, e1, r1, n1, q1⟩ => ?_⟩
  have s1 := hs.ext e1 fun _ => hr.mu
  refine ⟨μ1, sd, h1, s1, p.st e1 (fun _ => hr.mu) hS, r1, q1.fst.imp fun o H2 ⟨μ2, h2, d2, e2, r2, n2, q2⟩ => ?_⟩
  have s2 := s1.ext e2 fun _ => r1.mu
  refine ⟨μ2, sd, h2, s2, p.st e2 (fun _ => r1.mu) (p.st e1 (fun _ => hr.mu) hS), r2, q2.fst.imp fun i H3 ⟨μ3, h3, d3, e3, r3, n3, q3⟩ => ?_⟩
  have s3 := s2.ext e3 fun _ => r2.mu
  split at q3
  · rename_i h4 eg
    unfold gSet at eg
    split at eg
    · split at eg
      · rename_i n k v' h' l el
        split at eg
        · rename_i j ej
          cases eg
          have n2' := n2.ext e3 fun _ => r2.mu
          cases n2' with
          | @obj _ a ea =>
            cases n3
            obtain ⟨a', xs, g1, g2, g3, g4⟩ := r3.lst el
            rw [ea] at g1; cases g1
            have n1' := (n1.ext e2 fun _ => r1.mu).ext e3 fun _ => r2.mu
            have e4 : Ext μ3 H3 μ3 (upd H3 a (.lst (xs.set j v))) := ⟨⟨[], by simp⟩, fun b u q n => (upd_ne (fun z : b = a => n (by rw [z]; exact List.mem_of_getElem? ea))).trans q, fun b z n => absurd z n⟩
            obtain ⟨e5, r4⟩ := r3.wr (o := .lst (xs.set j v)) (x := .lst (l.set j d1)) ea ⟨_, upd_same, (g3.set j n1').ext e4 fun _ => r3.mu, by rw [List.length_set]; exact g4⟩
            refine ⟨a, xs, k, j, rfl, rfl, g2, by rw [g3.length]; exact ej, ?_⟩
            obtain ⟨μ5, h5, a5, f1, f2, f3, f4⟩ := q3 μ3 .non _ e5 r4 trivial
            exact f4 μ5 σ _ (.refl _ _) f2 (hs.ext f1 fun _ => hr.mu) (p.st f1 (fun _ => hr.mu) hS)
        · cases eg
      · cases eg
    · cases eg
  · exact q3.elim
end
/-! ### while -/
def dWhN (fc : DSt → DHp → R Bool) (fb : DSt → DHp → SR) : Nat → DSt → DHp → SR
  | 0, _, _ => .no
  | n + 1, sd, h => sbind (fc sd h) sd fun b h1 => if b = true then (match fb sd h1 with
    | .nx sd2 h2 => dWhN fc fb n sd2 h2
    | .ct sd2 h2 => dWhN fc fb n sd2 h2
    | .bk sd2 h2 => .nx sd2 h2
    | r => r) else .nx sd h1
/-- the most turns -/
abbrev turnMax : Nat := 1000000000
def dWh (fc : DSt → DHp → R Bool) (fb : DSt → DHp → SR) : DSt → DHp → SR := dWhN fc fb turnMax
section
variable {X : Cx} {p : Pm} {c : Expr} {body : List Stmt} {fc : DSt → DHp → R Bool} {fb : DSt → DHp → SR} {pos : Pos}
theorem ds_while (hp : PassesOwn (model X.prog X.w) X.A X.env X.xe) (hc : DT p X c fc) (hb : DSs p X body fb) : DS p X (.While c body [] pos) (dWh fc fb) := by
  refine ⟨(ps_while hp hc.pt hb.ps).con fun E σ H q => ?_⟩
  obtain ⟨μ, sd, h, hs, hS, hr, q⟩ := q
  refine ⟨fun m σ H => ∃ μ sd h, StR X.K μ H σ sd ∧ p.S σ μ H ∧ HR X.K μ H h ∧ SPst X.K p μ H (dWhN fc fb m sd h) E, ⟨turnMax, μ, sd, h, hs, hS, hr, q⟩, fun m σ H ⟨μ, sd, h, hs, hS, hr, q⟩ => ?_⟩
  cases m with
  | zero => exact q.elim
  | succ m =>
    refine ⟨μ, sd, h, hs, hS, hr, (SPst.fst hs (fun _ => hr.mu) hS q).imp fun x H1 ⟨μ1, h1, d1, e1, r1, n1, q1⟩ => ?_⟩
    have n2 : x = d1 := n1
    subst n2
    cases x with
    | false => exact q1 μ1 σ H1 (.refl _ _) r1 (hs.ext e1 fun _ => hr.mu) (p.st e1 (fun _ => hr.mu) hS)
    | true =>
      have q2 : SPst X.K p μ1 H1 (match fb sd h1 with
        | .nx sd2 h2 => dWhN fc fb m sd2 h2
        | .ct sd2 h2 => dWhN fc fb m sd2 h2
        | .bk sd2 h2 => .nx sd2 h2
        | r => r) E := q1
      refine (if_pos rfl).mpr ⟨fun σ H => ∃ μ sd h, StR X.K μ H σ sd ∧ p.S σ μ H ∧ HR X.K μ H h ∧ SPst X.K p μ H (dWhN fc fb m sd h) E, fun σ' H' z => ⟨m, Nat.lt_succ_self _, z⟩, μ1, sd, h1, hs.ext e1 fun _ => hr.mu, p.st e1 (fun _ => hr.mu) hS, r1, ?_⟩
      cases eb : fb sd h1 with
      | nx sd2 h2 => rw [eb] at q2; exact fun μ' σ' H' x hr' hs' hS' => ⟨μ', sd2, h2, hs', hS', hr', SPst.ext x q2⟩
      | ct sd2 h2 => rw [eb] at q2; exact fun μ' σ' H' x hr' hs' hS' => ⟨μ', sd2, h2, hs', hS', hr', SPst.ext x q2⟩
      | bk sd2 h2 => rw [eb] at q2; exact q2
      | rt d h2 => rw [eb] at q2; exact q2
      | ex e sd2 h2 => rw [eb] at q2; exact q2
      | no => rw [eb] at q2; exact q2
end
/-! ### for -/
open Classical in
noncomputable def dForL (chk : DHp → Prop) (tg : DTg) (fb : DSt → DHp → SR) : List D → DSt → DHp → SR
  | [], sd, h => if chk h then .nx sd h else .no
  | d :: ds, sd, h => if chk h then (match tg d sd with
    | some sd1 => (match fb sd1 h with
      | .nx sd2 h2 => dForL chk tg fb ds sd2 h2
      | .ct sd2 h2 => dForL chk tg fb ds sd2 h2
      | .bk sd2 h2 => .nx sd2 h2
      | r => r)
    | none => .no) else .no
/-- the walked thing: its items, what must stay -/
structure Src where
  ds : List D
  chk : DHp → Prop
noncomputable def dFor (src : DSt → DHp → R Src) (tg : DTg) (fb : DSt → DHp → SR) : DSt → DHp → SR := fun sd h => sbind (src sd h) sd fun s h1 => dForL s.chk tg fb s.ds sd h1
/-- what an iterator must do for a source -/
def ItOk (K : Fg) (s : Src) (J : It) (B : List Addr → Hp → Prop) : Prop :=
  (∀ μ H μ' H' h, HR K μ H h → Ext μ H μ' H' → B μ H → B μ' H') ∧
  (∀ μ H h, B μ H → HR K μ H h → s.chk h → J.stop s.ds.length H) ∧
  (∀ i d μ H h, B μ H → HR K μ H h → s.chk h → s.ds[i]? = some d → J.go i H ∧ ∀ x H', J.yld i H x H' → ∃ μ', Ext μ H μ' H' ∧ HR K μ' H' h ∧ Dn K μ' H' x d)
/-- a walked thing's reading -/
def rdgI (K : Fg) (p : Pm) (f : DSt → DHp → R Src) : TI := fun σ H Rr => ∃ μ sd h, StR K μ H σ sd ∧ p.S σ μ H ∧ HR K μ H h ∧ match f sd h with
  | .ok s h' => ∀ J μ' H' B, Ext μ H μ' H' → HR K μ' H' h' → B μ' H' → ItOk K s J B → Rr J H'
  | .ex e h' => ∀ μ' cls dd H', Ext μ H μ' H' → HR K μ' H' h' → ExR K p.ct μ' H' e cls dd → p.W cls dd σ H'
  | .no => False
structure DI (p : Pm) (X : Cx) (tg iter : Expr) (f : DSt → DHp → R Src) : Prop where
  pi : PI X tg iter (rdgI X.K p f)
section
variable {X : Cx} {p : Pm} {tgt iter : Expr} {body : List Stmt} {src : DSt → DHp → R Src} {tg : DTg} {fb : DSt → DHp → SR} {pos : Pos}
theorem _root_.L2.PI.con {tg : Expr} {e : Expr} {t t' : TI} (h : PI X tg e t) (i : ∀ σ H Q, t' σ H Q → t σ H Q) : PI X tg e t' := ⟨fun pins s σ H Q I q => h.run pins s σ H Q I (i _ _ _ q)⟩
theorem ds_for (hp : PassesOwn (model X.prog X.w) X.A X.env X.xe) (hc : X.calm = true) (hi : DI p X tgt iter src) (hg : DG p X tgt tg) (hb : DSs p X body fb)
    (hfs : ∀ x, foldedSetIterable iter X.env x = pure x := by intro _; rfl) : DS p X (.For tgt iter body [] pos) (dFor src tg fb) := by
  refine ⟨(ps_for hp hc hi.pi hg.pg hb.ps hfs).con fun E σ H q => ?_⟩
  obtain ⟨μ, sd, h, hs, hS, hr, q⟩ := q
  refine ⟨μ, sd, h, hs, hS, hr, ?_⟩
  unfold dFor at q
  cases es : src sd h with
  | no => rw [es] at q; exact q.elim
  | ex x hx => rw [es] at q; exact fun μ1 c d H1 e r y => q μ1 c d σ H1 e r (hs.ext e fun _ => hr.mu) (p.st e (fun _ => hr.mu) hS) y
  | ok s h0 =>
  rw [es] at q
  intro J μ1 H1 B e1 r1 hB ⟨oB, ostop, ogo⟩
  have q1 : SPst X.K p μ1 H1 (dForL s.chk tg fb (s.ds.drop 0) sd h0) E := SPst.ext e1 q
  refine ⟨fun i m σ H => i + m = s.ds.length ∧ ∃ μ sd h, StR X.K μ H σ sd ∧ p.S σ μ H ∧ HR X.K μ H h ∧ B μ H ∧ SPst X.K p μ H (dForL s.chk tg fb (s.ds.drop i) sd h) E,
    ⟨s.ds.length, Nat.zero_add _, μ1, sd, h0, hs.ext e1 fun _ => hr.mu, p.st e1 (fun _ => hr.mu) hS, r1, hB, q1⟩, fun i m σ H ⟨him, μ, sd, h, hs, hS, hr, hB, q⟩ => ?_⟩
  rcases Nat.lt_or_ge i s.ds.length with hi | hi
  · rw [List.drop_eq_getElem_cons hi] at q
    unfold dForL at q
    split at q
    · rename_i hchk
      obtain ⟨g1, g2⟩ := ogo i _ μ H h hB hr hchk (List.getElem?_eq_getElem hi)
      refine .inr ⟨g1, fun σ H => ∃ μ sd h, StR X.K μ H σ sd ∧ p.S σ μ H ∧ HR X.K μ H h ∧ B μ H ∧ SPst X.K p μ H (dForL s.chk tg fb (s.ds.drop (i + 1)) sd h) E, fun σ' H' z => ⟨m - 1, by omega, by omega, z⟩, fun x H' hy => ?_⟩
      obtain ⟨μ', e', r', n'⟩ := g2 x H' hy
      have hB' := oB μ H μ' H' h hr e' hB
      split at q
      · rename_i sd1 etg
        refine ⟨μ', sd, h, _, sd1, hs.ext e' fun _ => hr.mu, p.st e' (fun _ => hr.mu) hS, r', n', etg, fun σ' hs' hS' => ⟨μ', sd1, h, hs', hS', r', ?_⟩⟩
        cases eb : fb sd1 h with
        | nx sd2 h2 => rw [eb] at q; exact fun μ2 σ2 H2 x2 hr2 hs2 hS2 => ⟨μ2, sd2, h2, hs2, hS2, hr2, oB _ _ _ _ _ r' x2 hB', SPst.ext (e'.trans x2) q⟩
        | ct sd2 h2 => rw [eb] at q; exact fun μ2 σ2 H2 x2 hr2 hs2 hS2 => ⟨μ2, sd2, h2, hs2, hS2, hr2, oB _ _ _ _ _ r' x2 hB', SPst.ext (e'.trans x2) q⟩
        | bk sd2 h2 => rw [eb] at q; exact SPst.ext (r := .nx sd2 h2) e' q
        | rt d h2 => rw [eb] at q; exact SPst.ext (r := .rt d h2) e' q
        | ex e sd2 h2 => rw [eb] at q; exact SPst.ext (r := .ex e sd2 h2) e' q
        | no => rw [eb] at q; exact q.elim
      · exact q.elim
    · exact q.elim
  · rw [List.drop_eq_nil_of_le hi] at q
    unfold dForL at q
    split at q
    · rename_i hchk
      have hi' : i = s.ds.length := by omega
      subst hi'
      exact .inl ⟨ostop μ H h hB hr hchk, q μ σ H (.refl _ _) hr hs hS⟩
    · exact q.elim
end
end DL
end

section
set_option Elab.async false
set_option linter.all false
set_option maxRecDepth 100000
/-! DL6: what is walked; defs and their calls. -/
namespace DL
open PySem PySem.Spec PyProof.Rows
open L2 hiding St
theorem _root_.L2.PI.or {X : Cx} {tg e : Expr} {t t' : TI} (h : PI X tg e t) (h' : PI X tg e t') : PI X tg e fun σ H R => t σ H R ∨ t' σ H R :=
  ⟨fun pins s σ H R I q => q.elim (h.run pins s σ H R I) (h'.run pins s σ H R I)⟩
theorem _root_.L2.PE.or {X : Cx} {e : Expr} {t t' : TE} (h : PE X e t) (h' : PE X e t') : PE X e fun σ H R => t σ H R ∨ t' σ H R :=
  ⟨fun pins s σ H R I q => q.elim (h.run pins s σ H R I) (h'.run pins s σ H R I)⟩
theorem _root_.L2.PS.or {X : Cx} {e : Stmt} {t t' : TS} (h : PS X e t) (h' : PS X e t') : PS X e fun E σ H => t E σ H ∨ t' E σ H :=
  ⟨fun pins s σ H E I q => q.elim (h.run pins s σ H E I) (h'.run pins s σ H E I)⟩
/-- a list, a tuple, a text -/
def gIt (d : D) (h : DHp) : R Src := match d with
  | .tup l => .ok ⟨l, fun _ => True⟩ h
  | .frl l => .ok ⟨l, fun _ => True⟩ h
  | .str z => .ok ⟨z.cps.toList.map fun c => D.str ⟨#[c]⟩, fun _ => True⟩ h
  | .obj j => match h[j]? with
    | some (.lst l) => .ok ⟨l, fun h => h[j]? = some (.lst l)⟩ h
    | _ => .no
  | _ => .no
def dIt (f : DSt → DHp → R D) : DSt → DHp → R Src := fun sd h => (f sd h).bind gIt
def gRng1 (ds : List D) (h : DHp) : R Src := match ds with
  | [.int j] => if -(2 ^ 62) ≤ j ∧ j < 2 ^ 62 then .ok ⟨(List.range j.toNat).map fun i => D.int (i : Nat), fun _ => True⟩ h else .no
  | _ => .no
def gRng2 (ds : List D) (h : DHp) : R Src := match ds with
  | [.int i, .int j] => if -(2 ^ 62) ≤ i ∧ i < 2 ^ 62 ∧ -(2 ^ 62) ≤ j ∧ j < 2 ^ 62 then .ok ⟨(List.range (j - i).toNat).map fun k => D.int (i + (k : Nat)), fun _ => True⟩ h else .no
  | _ => .no
/-- range(a, b, -1) -/
def gRng3 (ds : List D) (h : DHp) : R Src := match ds with
  | [.int i, .int j, .int c] => if -(2 ^ 62) ≤ i ∧ i < 2 ^ 62 ∧ -(2 ^ 62) ≤ j ∧ j < 2 ^ 62 ∧ c = -1 then .ok ⟨(List.range (i - j).toNat).map fun k => D.int (i + (k : Nat) * (-1)), fun _ => True⟩ h else .no
  | _ => .no
def dItA (g : List D → DHp → R Src) (f : DSt → DHp → R (List D)) : DSt → DHp → R Src := fun sd h => (f sd h).bind g
section
variable {K : Fg}
theorem itok_tup {a : Addr} {l : List D} : ItOk K ⟨l, fun _ => True⟩ (Itt K a) fun μ H => ∃ xs, SqT K H a xs ∧ DnL K μ H xs l := by
  refine ⟨fun μ H μ' H' h hr e ⟨xs, q1, q2⟩ => ⟨xs, sqT_ext e (fun _ => hr.mu) q1, q2.ext e fun _ => hr.mu⟩, fun μ H h ⟨xs, q1, q2⟩ hr _ => ⟨xs, q1, by rw [q2.length]; exact Nat.le_refl _⟩, fun i d μ H h ⟨xs, q1, q2⟩ hr _ e => ?_⟩
  obtain ⟨v, e1, n⟩ := q2.get e
  refine ⟨⟨xs, v, q1, e1⟩, fun x H' ⟨hH, hx⟩ => ?_⟩
  subst hH
  have := hx xs q1
  rw [e1] at this; cases this
  exact ⟨μ, .refl _ _, hr, n⟩
theorem itok_frl {a : Addr} {l : List D} : ItOk K ⟨l, fun _ => True⟩ (Itl K a) fun μ H => ∃ xs, FzL K H a xs ∧ DnL K μ H xs l := by
  refine ⟨fun μ H μ' H' h hr e ⟨xs, q1, q2⟩ => ⟨xs, fzL_ext e (fun _ => hr.mu) q1, q2.ext e fun _ => hr.mu⟩, fun μ H h ⟨xs, q1, q2⟩ hr _ => ⟨xs, q1.sq, by rw [q2.length]; exact Nat.le_refl _⟩, fun i d μ H h ⟨xs, q1, q2⟩ hr _ e => ?_⟩
  obtain ⟨v, e1, n⟩ := q2.get e
  refine ⟨⟨xs, v, q1.sq, e1⟩, fun x H' ⟨hH, hx⟩ => ?_⟩
  subst hH
  have := hx xs q1.sq
  rw [e1] at this; cases this
  exact ⟨μ, .refl _ _, hr, n⟩
theorem itok_obj {a : Addr} {j : Nat} {l : List D} : ItOk K ⟨l, fun h => h[j]? = some (.lst l)⟩ (Itl K a) fun μ H => μ[j]? = some a := by
  refine ⟨fun μ H μ' H' h hr e q => e.get q, fun μ H h q hr c => ?_, fun i d μ H h q hr c e => ?_⟩
  · obtain ⟨b, xs, g1, g2, g3, g4⟩ := hr.lst c
    rw [q] at g1; cases g1
    exact ⟨xs, .of g2, by rw [g3.length]; exact Nat.le_refl _⟩
  · obtain ⟨b, xs, g1, g2, g3, g4⟩ := hr.lst c
    rw [q] at g1; cases g1
    obtain ⟨v, e1, n⟩ := g3.get e
    refine ⟨⟨xs, v, .of g2, e1⟩, fun x H' ⟨hH, hx⟩ => ?_⟩
    subst hH
    have := hx xs (.of g2)
    rw [e1] at this; cases this
    exact ⟨μ, .refl _ _, hr, n⟩
theorem itok_str {z : Str} (hz : sOk z) : ItOk K ⟨z.cps.toList.map fun c => D.str ⟨#[c]⟩, fun _ => True⟩ (Its z) fun _ _ => True := by
  refine ⟨fun _ _ _ _ _ _ _ _ => trivial, fun μ H h _ hr _ => by show z.cps.size ≤ _; simp, fun i d μ H h _ hr _ e => ?_⟩
  rw [List.getElem?_map] at e
  have hi : i < z.cps.size := by
    rcases Nat.lt_or_ge i z.cps.size with q | q
    · exact q
    · rw [List.getElem?_eq_none (by simpa using q)] at e; cases e
  refine ⟨hi, fun x H' ⟨hH, c, ec, hx⟩ => ?_⟩
  subst hH
  have ec' : z.cps.toList[i]? = some c := by rw [← ec]; simp
  rw [ec'] at e
  cases e
  subst hx
  refine ⟨μ, .refl _ _, hr, .str _ ⟨by show 1 ≤ strMax; decide, strOk_of (l := [c]) fun c' hc => ?_⟩⟩
  rw [List.mem_singleton.mp hc]
  exact strOk_mem hz.2 (List.mem_of_getElem? ec')
theorem itok_rng {lo : Int} {n : Nat} : ItOk K ⟨(List.range n).map fun k => D.int (lo + (k : Nat)), fun _ => True⟩ (Itr lo n) fun _ _ => True := by
  refine ⟨fun _ _ _ _ _ _ _ _ => trivial, fun μ H h _ hr _ => by show n ≤ _; simp, fun i d μ H h _ hr _ e => ?_⟩
  rw [List.getElem?_map] at e
  have hi : i < n := by
    rcases Nat.lt_or_ge i n with q | q
    · exact q
    · rw [List.getElem?_eq_none (by simpa using q)] at e; cases e
  rw [List.getElem?_range hi] at e
  cases e
  refine ⟨hi, fun x H' ⟨hH, hx⟩ => ?_⟩
  subst hH
  subst hx
  exact ⟨μ, .refl _ _, hr, .int _⟩
theorem itok_rngC {lo c : Int} {n : Nat} : ItOk K ⟨(List.range n).map fun k => D.int (lo + (k : Nat) * c), fun _ => True⟩ (Itc lo c n) fun _ _ => True := by
  refine ⟨fun _ _ _ _ _ _ _ _ => trivial, fun μ H h _ hr _ => by show n ≤ _; simp, fun i d μ H h _ hr _ e => ?_⟩
  rw [List.getElem?_map] at e
  have hi : i < n := by
    rcases Nat.lt_or_ge i n with q | q
    · exact q
    · rw [List.getElem?_eq_none (by simpa using q)] at e; cases e
  rw [List.getElem?_range hi] at e
  cases e
  refine ⟨hi, fun x H' ⟨hH, hx⟩ => ?_⟩
  subst hH
  subst hx
  exact ⟨μ, .refl _ _, hr, .int _⟩
end
section
variable {X : Cx} {p : Pm} {tgt e : Expr} {fe : DSt → DHp → R D} {fs : DSt → DHp → R (List D)} {pos : Pos}
theorem ne_It : ∀ d h e h', gIt d h ≠ .ex e h' := by intro a h e h' z; unfold gIt at z; split at z <;> (try split at z) <;> cases z
theorem di_it (he : DE p X e fe) : DI p X tgt e (dIt fe) := by
  refine ⟨(((pi_tup he.pe).or (pi_list he.pe)).or (pi_str he.pe)).con fun σ H Rr q => ?_⟩
  have q0 := q
  obtain ⟨μ, sd, h, hs, hS, hr, q⟩ := q
  unfold dIt at q
  cases es : fe sd h with
  | no => rw [es] at q; exact q.elim
  | ex x hx => rw [es] at q; exact .inl (.inl ⟨μ, sd, h, hs, hS, hr, by rw [es]; exact q⟩)
  | ok d h1 =>
    rw [es] at q
    have q' : (match gIt d h1 with
      | .ok s h' => ∀ J μ' H' B, Ext μ H μ' H' → HR X.K μ' H' h' → B μ' H' → ItOk X.K s J B → Rr J H'
      | .ex e h' => ∀ μ' cls dd H', Ext μ H μ' H' → HR X.K μ' H' h' → ExR X.K p.ct μ' H' e cls dd → p.W cls dd σ H'
      | .no => False) := q
    cases d with
    | tup l =>
      refine .inl (.inl ⟨μ, sd, h, hs, hS, hr, ?_⟩)
      rw [es]
      intro μ1 x H1 e1 r1 n1
      cases n1 with
      | tup sa la za => exact ⟨_, rfl, ⟨_, sa⟩, q' _ μ1 H1 _ e1 r1 ⟨_, sa, la⟩ itok_tup⟩
    | frl l =>
      refine .inl (.inr ⟨μ, sd, h, hs, hS, hr, ?_⟩)
      rw [es]
      intro μ1 x H1 e1 r1 n1
      cases n1 with
      | frl sa la za => exact ⟨_, rfl, ⟨_, sa.sq⟩, q' _ μ1 H1 _ e1 r1 ⟨_, sa, la⟩ itok_frl⟩
    | str z =>
      refine .inr ⟨μ, sd, h, hs, hS, hr, ?_⟩
      rw [es]
      intro μ1 x H1 e1 r1 n1
      cases n1 with
      | str z hz => exact ⟨_, rfl, q' _ μ1 H1 _ e1 r1 trivial (itok_str hz)⟩
    | obj j =>
      refine .inl (.inr ⟨μ, sd, h, hs, hS, hr, ?_⟩)
      rw [es]
      intro μ1 x H1 e1 r1 n1
      cases n1 with
      | obj ej =>
        have q2 : (match (match h1[j]? with
          | some (.lst l) => R.ok ⟨l, fun h => h[j]? = some (.lst l)⟩ h1
          | _ => .no : R Src) with
          | .ok s h' => ∀ J μ' H' B, Ext μ H μ' H' → HR X.K μ' H' h' → B μ' H' → ItOk X.K s J B → Rr J H'
          | .ex e h' => ∀ μ' cls dd H', Ext μ H μ' H' → HR X.K μ' H' h' → ExR X.K p.ct μ' H' e cls dd → p.W cls dd σ H'
          | .no => False) := q'
        cases el : h1[j]? with
        | none => rw [el] at q2; exact q2.elim
        | some o =>
          cases o with
          | lst l =>
            rw [el] at q2
            obtain ⟨b, xs, g1, g2, g3, g4⟩ := r1.lst el
            rw [ej] at g1; cases g1
            exact ⟨_, rfl, ⟨_, .of g2⟩, q2 _ μ1 H1 _ e1 r1 ej itok_obj⟩
          | dK l => rw [el] at q2; exact q2.elim
          | dT l => rw [el] at q2; exact q2.elim
    | _ => exact q'.elim
theorem bindIA {f : DSt → DHp → R (List D)} {k : List D → DHp → R Src} {σ : St} {H : Hp} {Rr : It → Hp → Prop} (q : rdgI X.K p (dItA k f) σ H Rr) {P : List V → Hp → Prop}
    (ne : ∀ d h e h', k d h ≠ .ex e h') (i : ∀ x μ1 H1 h1 d s, HR X.K μ1 H1 h1 → DnL X.K μ1 H1 x d → k d h1 = .ok s h1 → (∀ J B, B μ1 H1 → ItOk X.K s J B → Rr J H1) → P x H1) (same : ∀ d h s h', k d h = .ok s h' → h' = h) : rdg X.K p (DnL X.K) f σ H P := by
  obtain ⟨μ, sd, h, hs, hS, hr, q⟩ := q
  refine ⟨μ, sd, h, hs, hS, hr, ?_⟩
  unfold dItA at q
  cases es : f sd h with
  | no => rw [es] at q; exact q.elim
  | ex x hx => rw [es] at q; exact q
  | ok d h1 =>
    rw [es] at q
    intro μ1 x H1 e1 r1 n1
    have q' : (match k d h1 with
      | .ok s h' => ∀ J μ' H' B, Ext μ H μ' H' → HR X.K μ' H' h' → B μ' H' → ItOk X.K s J B → Rr J H'
      | .ex e h' => ∀ μ' cls dd H', Ext μ H μ' H' → HR X.K μ' H' h' → ExR X.K p.ct μ' H' e cls dd → p.W cls dd σ H'
      | .no => False) := q
    cases ek : k d h1 with
    | no => rw [ek] at q'; exact q'.elim
    | ex x hx => exact absurd ek (ne _ _ _ _)
    | ok s h' =>
      rw [ek] at q'
      have := same _ _ _ _ ek
      subst this
      exact i x μ1 H1 h' d s r1 n1 ek fun J B hB hI => q' J μ1 H1 B e1 r1 hB hI
theorem DnL.three {K : Fg} {μ : List Addr} {H : Hp} {xs : List V} {d e f : D} (h : DnL K μ H xs [d, e, f]) : ∃ u v w, xs = [u, v, w] ∧ Dn K μ H u d ∧ Dn K μ H v e ∧ Dn K μ H w f := by
  cases h with | cons a t => obtain ⟨v, w, rfl, b, c⟩ := t.two; exact ⟨_, v, w, rfl, a, b, c⟩
theorem di_rng1 {a : Expr} {pn : Pos} (hg : Gl X "range") (hm : X.mg "range" = none) (ha : DA p X [a] fs) (hs : starEach [a] X.env = [(false, eval a X.env)] := by rfl) : DI p X tgt (.Call (.Name "range" pn) [a] [] pos) (dItA gRng1 fs) := by
  refine ⟨(pi_range1 hg hm ha.pa hs).con fun σ H Rr q => ?_⟩
  refine bindIA q (fun d h e h' z => by unfold gRng1 at z; split at z <;> (try split at z) <;> cases z) (fun x μ1 H1 h1 d s hr n e q => ?_) (fun d h s h' z => by unfold gRng1 at z; split at z <;> (try split at z) <;> cases z <;> rfl)
  unfold gRng1 at e
  split at e
  · split at e
    · rename_i hb
      cases e
      obtain ⟨v, rfl, n1⟩ := n.one
      cases n1
      have := itok_rng (K := X.K) (lo := 0) (n := Int.toNat ‹Int›)
      simp only [Int.zero_add] at this
      exact ⟨_, rfl, hb.1, hb.2, q _ _ trivial this⟩
    · cases e
  · cases e
theorem di_rng2 {a b : Expr} {pn : Pos} (hg : Gl X "range") (hm : X.mg "range" = none) (ha : DA p X [a, b] fs) (hs : starEach [a, b] X.env = [(false, eval a X.env), (false, eval b X.env)] := by rfl) (hs2 : starEach [b] X.env = [(false, eval b X.env)] := by rfl) : DI p X tgt (.Call (.Name "range" pn) [a, b] [] pos) (dItA gRng2 fs) := by
  refine ⟨(pi_range2 hg hm ha.pa hs hs2).con fun σ H Rr q => ?_⟩
  refine bindIA q (fun d h e h' z => by unfold gRng2 at z; split at z <;> (try split at z) <;> cases z) (fun x μ1 H1 h1 d s hr n e q => ?_) (fun d h s h' z => by unfold gRng2 at z; split at z <;> (try split at z) <;> cases z <;> rfl)
  unfold gRng2 at e
  split at e
  · split at e
    · rename_i hb
      cases e
      obtain ⟨v, w, rfl, n1, n2⟩ := n.two
      cases n1
      cases n2
      exact ⟨_, _, rfl, hb, q _ _ trivial itok_rng⟩
    · cases e
  · cases e
theorem di_rng3 {a b c : Expr} {pn : Pos} (hg : Gl X "range") (hm : X.mg "range" = none) (ha : DA p X [a, b, c] fs) (hs : starEach [a, b, c] X.env = (false, eval a X.env) :: starEach [b, c] X.env := by rfl) (hpl : (backTo pos (starEach [b, c] X.env)).any (·.1) = false := by rfl) : DI p X tgt (.Call (.Name "range" pn) [a, b, c] [] pos) (dItA gRng3 fs) := by
  refine ⟨(pi_range3 hg hm ha.pa hs hpl).con fun σ H Rr q => ?_⟩
  refine bindIA q (fun d h e h' z => by unfold gRng3 at z; split at z <;> (try split at z) <;> cases z) (fun x μ1 H1 h1 d s hr n e q => ?_) (fun d h s h' z => by unfold gRng3 at z; split at z <;> (try split at z) <;> cases z <;> rfl)
  unfold gRng3 at e
  split at e
  · split at e
    · rename_i i j c hb
      obtain ⟨b1, b2, b3, b4, b5⟩ := hb
      cases e
      obtain ⟨u, v, w, rfl, n1, n2, n3⟩ := n.three
      cases n1
      cases n2
      cases n3
      subst b5
      exact ⟨i, j, -1, (i - j).toNat, rfl, RgC.neg b1 b2 b3 b4, q _ _ trivial itok_rngC⟩
    · cases e
  · cases e
end
/-! ### defs -/
abbrev Sem' := List D → DHp → R D
mutual
def dLt (n : Nat) : D → Bool
  | .obj i => decide (i < n)
  | .tup l => dLts n l
  | .frl l => dLts n l
  | _ => true
def dLts (n : Nat) : List D → Bool
  | [] => true
  | d :: ds => dLt n d && dLts n ds
end
def kLts {κ : Type} (n : Nat) : List (κ × D) → Bool
  | [] => true
  | (_, d) :: ds => dLt n d && kLts n ds
def doLt (n : Nat) : DO → Bool
  | .lst l => dLts n l
  | .dK l => kLts n l
  | .dT l => kLts n l
def exLt (n : Nat) (e : Exn) : Bool := match e.fs with
  | none => true
  | some fs => kLts n fs
section
variable {K : Fg} {μ ρ : List Addr} {H : Hp}
mutual
theorem Dn.lt : ∀ {v : V} {d : D}, Dn K μ H v d → dLt μ.length d = true
  | _, _, .non => rfl
  | _, _, .bl b => rfl
  | _, _, .int i => rfl
  | _, _, .str x h => rfl
  | _, _, .tup h l z => by rw [dLt]; exact DnL.lt l
  | _, _, .frl h l z => by rw [dLt]; exact DnL.lt l
  | _, _, .obj h => by
    rw [dLt]
    refine decide_eq_true ?_
    rename_i i a
    rcases Nat.lt_or_ge i μ.length with z | z
    · exact z
    · rw [List.getElem?_eq_none z] at h; cases h
  | _, _, .ty n => rfl
  | _, _, .exc v => rfl
theorem DnL.lt : ∀ {v : List V} {d : List D}, DnL K μ H v d → dLts μ.length d = true
  | _, _, .nil => rfl
  | _, _, .cons h t => by rw [dLts, Dn.lt h, DnL.lt t]; rfl
end
mutual
theorem Dn.down : ∀ {v : V} {d : D}, Dn K (μ ++ ρ) H v d → dLt μ.length d = true → Dn K μ H v d
  | _, _, .non, _ => .non
  | _, _, .bl b, _ => .bl b
  | _, _, .int i, _ => .int i
  | _, _, .str x h, _ => .str x h
  | _, _, .tup h l z, q => .tup h (DnL.down l (by rw [dLt] at q; exact q)) z
  | _, _, .frl h l z, q => .frl h (DnL.down l (by rw [dLt] at q; exact q)) z
  | _, _, .obj h, q => .obj (by
    rw [dLt] at q
    rw [List.getElem?_append_left (of_decide_eq_true q)] at h
    exact h)
  | _, _, .ty n, _ => .ty n
  | _, _, .exc v, _ => .exc v
theorem DnL.down : ∀ {v : List V} {d : List D}, DnL K (μ ++ ρ) H v d → dLts μ.length d = true → DnL K μ H v d
  | _, _, .nil, _ => .nil
  | _, _, .cons h t, q => by
    rw [dLts, Bool.and_eq_true] at q
    exact .cons (Dn.down h q.1) (DnL.down t q.2)
end
theorem KD.lt {κ : Type} {v : List (κ × V)} {d : List (κ × D)} (h : KD K μ H v d) : kLts μ.length d = true := by
  induction h with
  | nil => rfl
  | cons a t ih => rw [kLts, a.lt, ih]; rfl
theorem KD.down {κ : Type} {v : List (κ × V)} {d : List (κ × D)} (h : KD K (μ ++ ρ) H v d) (q : kLts μ.length d = true) : KD K μ H v d := by
  induction h with
  | nil => exact .nil
  | cons a t ih =>
    rw [kLts, Bool.and_eq_true] at q
    exact .cons (a.down q.1) (ih q.2)
theorem FR.down {v : List (Str × V)} {d : List (Str × D)} (h : FR K (μ ++ ρ) H v d) (q : kLts μ.length d = true) : FR K μ H v d := by
  induction h with
  | nil => exact .nil
  | cons a t ih =>
    rw [kLts, Bool.and_eq_true] at q
    exact .cons (a.down q.1) (ih q.2)
theorem DOk.lt {a : Addr} {o : DO} (h : DOk K μ H a o) : doLt μ.length o = true := by
  cases o with
  | lst l => obtain ⟨xs, _, n, _⟩ := h; exact n.lt
  | dK l => obtain ⟨xs, _, n, _⟩ := h; exact n.lt
  | dT l => obtain ⟨xs, _, n, _⟩ := h; exact n.lt
theorem DOk.down {a : Addr} {o : DO} (h : DOk K (μ ++ ρ) H a o) (q : doLt μ.length o = true) : DOk K μ H a o := by
  cases o with
  | lst l => obtain ⟨xs, e, n, z⟩ := h; exact ⟨xs, e, n.down q, z⟩
  | dK l => obtain ⟨xs, e, n, z⟩ := h; exact ⟨xs, e, n.down q, z⟩
  | dT l => obtain ⟨xs, e, n, z⟩ := h; exact ⟨xs, e, n.down q, z⟩
end
/-- the objects that were there stay within themselves -/
def Kept (h h' : DHp) : Prop := ∀ i o, i < h.length → h'[i]? = some o → h[i]? = some o ∨ doLt h.length o = true
open Classical in
/-- what a def made and does not hand out is forgotten -/
noncomputable def gc (h : DHp) (r : R D) : R D := match r with
  | .ok d h' => if Kept h h' ∧ dLt h.length d = true then .ok d (h'.take h.length) else .ok d h'
  | .ex e h' => if Kept h h' ∧ exLt h.length e = true then .ex e (h'.take h.length) else .ex e h'
  | .no => .no
theorem HR.down {K : Fg} {μ ρ : List Addr} {H H' : Hp} {h h' : DHp} (r : HR K μ H h) (r' : HR K (μ ++ ρ) H' h') (k : Kept h h') : HR K μ H' (h'.take h.length) := by
  have hl : h.length ≤ h'.length := by rw [← r.len, ← r'.len, List.length_append]; omega
  refine ⟨by rw [List.length_take, r.len]; omega, (List.nodup_append.mp r'.nd).1, fun i o e => ?_⟩
  have hi : i < h.length := by
    rcases Nat.lt_or_ge i h.length with z | z
    · exact z
    · rw [List.getElem?_eq_none (by rw [List.length_take]; omega)] at e; cases e
  rw [List.getElem?_take_of_lt hi] at e
  obtain ⟨a, e1, ok⟩ := r'.ob i o e
  rw [List.getElem?_append_left (by rw [r.len]; exact hi)] at e1
  refine ⟨a, e1, ok.down ?_⟩
  rcases k i o hi e with q | q
  · obtain ⟨b, _, ok0⟩ := r.ob i o q
    exact ok0.lt
  · rw [r.len]; exact q
theorem Ext.down {μ ρ : List Addr} {H H' : Hp} (e : Ext μ H (μ ++ ρ) H') : Ext μ H μ H' := ⟨⟨[], by simp⟩, e.fr, fun a z n => absurd z n⟩
def RPst (K : Fg) (ct : Str → Addr) (μ : List Addr) (H : Hp) (r : R D) (Q : VK) (E : XK) : Prop := match r with
  | .ok d h' => ∀ μ' v H', Ext μ H μ' H' → HR K μ' H' h' → Dn K μ' H' v d → Q v H'
  | .ex e h' => ∀ μ' cls dd H', Ext μ H μ' H' → HR K μ' H' h' → ExR K ct μ' H' e cls dd → E cls dd H'
  | .no => False
theorem RPst.gc {K : Fg} {ct : Str → Addr} {μ : List Addr} {H : Hp} {h : DHp} {r : R D} {Q : VK} {E : XK} (hr : HR K μ H h) (q : RPst K ct μ H (gc h r) Q E) : RPst K ct μ H r Q E := by
  cases r with
  | no => exact q
  | ok d h' =>
    intro μ' v H' e r' n
    have q' : RPst K ct μ H (open Classical in if Kept h h' ∧ dLt h.length d = true then .ok d (h'.take h.length) else .ok d h') Q E := q
    split at q'
    · rename_i c
      obtain ⟨ρ, rfl⟩ := e.pre
      exact q' μ v H' e.down (hr.down r' c.1) (n.down (by rw [hr.len]; exact c.2))
    · exact q' μ' v H' e r' n
  | ex x h' =>
    intro μ' cls dd H' e r' n
    have q' : RPst K ct μ H (open Classical in if Kept h h' ∧ exLt h.length x = true then .ex x (h'.take h.length) else .ex x h') Q E := q
    split at q'
    · rename_i c
      obtain ⟨ρ, rfl⟩ := e.pre
      refine q' μ cls dd H' e.down (hr.down r' c.1) ⟨n.1, ?_⟩
      have n2 := n.2
      have c2 := c.2
      unfold exLt at c2
      cases ef : x.fs with
      | none => rw [ef] at n2; exact n2
      | some fs =>
        rw [ef] at n2 c2
        obtain ⟨a, xs, h1, h2, h3⟩ := n2
        exact ⟨a, xs, h1, h2, h3.down (by rw [hr.len]; exact c2)⟩
    · exact q' μ' cls dd H' e r' n
/-- a def's meaning from its body's -/
noncomputable def semOf (n : Nat) (body : DSt → DHp → SR) : Sem' := fun ds h => gc h (match body (ds.map some ++ List.replicate (n - ds.length) none) h with
  | .nx _ h' => .ok .non h'
  | .rt d h' => .ok d h'
  | .ex e _ h' => .ex e h'
  | _ => .no)
/-- the promise of a def -/
def spD (K : Fg) (ct : Str → Addr) (n : Nat) (f : Sem') : Sp := fun vs H Q E => vs.length = n ∧ ∃ μ h ds, HR K μ H h ∧ DnL K μ H vs ds ∧ RPst K ct μ H (f ds h) Q E
def FnD (P : Program) (w : World) (K : Fg) (mg : Str → Option Value) (base : Heap) (ct : Str → Addr) (k : Nat) (f : Addr) (fd : FuncData) (ps : List Str) (sem : Sem') : Prop :=
  FnOk P w K mg base (L2N.CX P w) k f fd ps (spD K ct ps.length sem)
def pmOf (ct : Str → Addr) (W : WX) : Pm := ⟨ct, W, fun _ _ _ => True, fun _ _ _ => trivial⟩
theorem StR.start {K : Fg} {μ : List Addr} {H : Hp} {vs : List V} {ds : List D} (h : DnL K μ H vs ds) (n : Nat) : StR K μ H (vs.map some ++ List.replicate n none) (ds.map some ++ List.replicate n none) := by
  induction ds generalizing vs with
  | nil =>
    cases h
    induction n with
    | zero => exact .nil
    | succ n ih => rw [List.replicate_succ]; exact .gone ih
  | cons d ds ih => cases h with | cons a t => exact .cons a (ih t)
section
variable {P : Program} {w : World} {K : Fg} {mg : Str → Option Value} {base : Heap} {ct : Str → Addr}
theorem fnD_of {x qual : Str} {st : Stmt} {f : Addr} {fd : FuncData} {N ps : List Str} {k : Nat} {body : DSt → DHp → SR} (F : Fun K x qual st f fd) (S : FnScope N ps (defScope st))
    (hb : ∀ (cdv : Value) (A : Around) (outer : List Env) (s : Shared) (H : Hp) (E : XK), Room k (A.deeper (envOfC qual (defScope st) s.heap.objs.size f cdv)) →
      DSs (pmOf ct fun cls d _ H => E cls d H) (cxOf (L2N.CX P w) P w K mg base N qual (defScope st) f cdv A outer s H E) (defBody st) body) : FnD P w K mg base ct (k + 1) f fd ps (semOf N.length body) := by
  obtain ⟨oc, od, kV, doc, pm, an, cdv, ct', osl, rfl, lk, hcd⟩ := F.ex
  refine fn_of lk hcd S (fun vs H Q E q => q.1) fun A outer s H vs Q E hr q => ?_
  refine ⟨_, (hb cdv A outer s H E hr).ps, ?_⟩
  obtain ⟨hl, μ, h, ds, r, n, q⟩ := q
  have hn : vs.length = ds.length := n.length
  refine ⟨μ, ds.map some ++ List.replicate (N.length - ds.length) none, h, by unfold L2.start; rw [hn]; exact StR.start n _, trivial, r, ?_⟩
  have q1 := RPst.gc r q
  generalize body (ds.map some ++ List.replicate (N.length - ds.length) none) h = rr at q1 ⊢
  cases rr with
  | nx sd h' => exact fun μ' σ H' e r' hs hS => q1 μ' _ H' e r' .non
  | rt d h' => exact fun μ' v H' e r' n' => q1 μ' v H' e r' n'
  | bk sd h' => exact q1.elim
  | ct sd h' => exact q1.elim
  | ex x sd h' => exact fun μ' cls dd σ H' e r' hs hS hx => q1 μ' cls dd H' e r' hx
  | no => exact q1
theorem FnD.mono {j k : Nat} {f : Addr} {fd : FuncData} {ps : List Str} {sem : Sem'} (F : FnD P w K mg base ct j f fd ps sem) (h : j ≤ k) : FnD P w K mg base ct k f fd ps sem := FnOk.mono F h
end
section
variable {X : Cx} {p : Pm} {k : Nat} {f : Addr} {fd : FuncData} {ps : List Str} {sem : Sem'} {x : Str} {pn pos : Pos} {e : Expr} {es : List Expr} {fs : DSt → DHp → R (List D)}
theorem de_call (F : FnD X.prog X.w X.K X.mg X.base p.ct k f fd ps sem) (hr : Room k X.A) (hg : Gl X x) (hm : X.mg x = some (.ref f)) (hk : PySem.W.keepIn X.K (.ref f) = true) (hb : Binds X.K fd ps []) (tk : L2N.Takes X p.W)
    (ha : DA p X (e :: es) fs) (hlen : (e :: es).length = ps.length := by rfl) (hdb : (x == ("__debug__" : Str)) = false := by decide) (he : starEach (e :: es) X.env = (false, eval e X.env) :: starEach es X.env := by rfl) (hpl : (backTo pos (starEach es X.env)).any (·.1) = false := by rfl)
    (hdl : ∀ sd h ds h', fs sd h = .ok ds h' → ds.length = (e :: es).length) : DE p X (.Call (.Name x pn) (e :: es) [] pos) (dArgs sem fs) := by
  refine ⟨(pe_callS F hr hg hm hk hb (fun σ => L2N.passAt tk σ) ha.pa hdb he hpl).con fun σ H Q q => ?_⟩
  obtain ⟨μ, sd, h, hs, hS, hr, q⟩ := q
  refine ⟨μ, sd, h, hs, hS, hr, ?_⟩
  unfold dArgs at q
  cases ef : fs sd h with
  | no => rw [ef] at q; exact q.elim
  | ex x hx => rw [ef] at q; exact q
  | ok ds h1 =>
    rw [ef] at q
    have q' : Pst X.K p μ H σ (Dn X.K) (sem ds h1) Q := q
    intro μ1 xs H1 e1 r1 n1
    refine ⟨by rw [n1.length, hdl _ _ _ _ ef, hlen], μ1, h1, ds, r1, n1, ?_⟩
    have q2 := Pst.ext e1 q'
    cases er : sem ds h1 with
    | no => rw [er] at q2; exact q2
    | ok d h2 => rw [er] at q2; exact q2
    | ex x h2 => rw [er] at q2; exact q2
end
/-- how many values an argument list hands on -/
def ArgN (fs : DSt → DHp → R (List D)) (n : Nat) : Prop := ∀ sd h ds h', fs sd h = .ok ds h' → ds.length = n
theorem argN_nil : ArgN dNil 0 := fun sd h ds h' e => by cases e; rfl
theorem argN_cons {f : DSt → DHp → R D} {g : DSt → DHp → R (List D)} {n : Nat} (h : ArgN g n) : ArgN (dCons f g) (n + 1) := fun sd h1 ds h' e => by
  unfold dCons at e
  cases ef : f sd h1 with
  | no => rw [ef] at e; cases e
  | ex x hx => rw [ef] at e; cases e
  | ok d h2 =>
    rw [ef] at e
    have e' : ((g sd h2).bind fun ds h2 => R.ok (d :: ds) h2) = .ok ds h' := e
    cases eg : g sd h2 with
    | no => rw [eg] at e'; cases e'
    | ex x hx => rw [eg] at e'; cases e'
    | ok es h3 => rw [eg] at e'; cases e'; simp [h _ _ _ _ eg]
end DL
end

section
set_option Elab.async false
set_option linter.all false
set_option maxRecDepth 100000
set_option maxHeartbeats 1000000
/-! DL7: errors. -/
namespace DL
open PySem PySem.Spec PyProof.Rows
open L2 hiding St
/-! ### an error of an own class with an __init__, made where nothing is handled -/
section
variable {X : Cx} {e : Expr} {es : List Expr} {ta : TA} {pn pos : Pos}
theorem made_end {pins : List (Addr × Obj)} {σ : St} {H1 H2 : Hp} {Q : XK} {hp hp2 h2 : Heap} {g1 g2 : Array GenState} {d1 d2 : Drawn} {t1 t2 : Nat} {os1 os2 : OsState} {a C d : Addr} {fs : List (Str × V)} (T : OexC X.K C)
    (I1 : Inv X pins σ H1 ⟨hp, g1, d1, t1, os1⟩) (ha : hp.objs.size ≤ a) (kk : ∀ b o, hp.get? b = some o → hp2.get? b = some o) (un : Un (frs X.stack) [] (upd H1 a (exo a C none)) H2 hp2 h2)
    (hok : HOk X.prog X.w H2 h2) (ho : os2 = os1) (hb : AllBare g2) (ea : H2 a = some (exo a C (some d))) (ed : H2 d = some (exd d fs)) (hd1 : H1 d = none)
    (q : Q (.ref C) (some d) (upd (del H2 a) d (.xd fs))) : L2N.MkP X pins σ Q (.ref a) ⟨h2, g2, d2, t2, os2⟩ := by
  have z := mk_end0 (d2 := d2) (t2 := t2) I1 ha kk un hok ho hb ea ed hd1
  obtain ⟨t0, G, J, kG, ge, hoe, na⟩ := z
  refine ⟨a, _, _, ⟨G, g2, d2, t2, os2⟩, _, .ref C, some d, rfl, J, kG, ge, hoe, ⟨rfl, rfl, ?_⟩, rfl, rfl, na, rfl, hb, raises_own T.exC T.tyC, q⟩
  intro vs ev
  cases ev
  rfl
theorem pmk_ini {CX' : CXT} {x : Str} {C fI : Addr} {k : Nat} {fd : FuncData} {ps : List Str} {sp : Sp} (T : OexC X.K C) (iC : PySem.W.findIn X.K (.ref C) "__init__" = some (some (.ref fI)))
    (tI : PySem.W.typeIn X.K (.ref fI) = some (.type "function")) (F1 : FnOk X.prog X.w X.K X.mg X.base CX' k fI fd ps sp) (hr : Room (k + 1) X.A) (hb : Binds X.K fd ps []) (hx : Passes CX' X (fun _ _ _ => False))
    (hg : Gl X x) (hm : X.mg x = some (.ref C)) (ha : PA X (e :: es) ta) (hdb : (x == ("__debug__" : Str)) = false := by decide)
    (he : starEach (e :: es) X.env = (false, eval e X.env) :: starEach es X.env := by rfl) (hpl : (backTo pos (starEach es X.env)).any (·.1) = false := by rfl) : L2N.PMk X (.Call (.Name x pn) (e :: es) [] pos) (tMkO C sp [] ta) := by
  intro pins s σ H Q I h
  obtain ⟨nm, qn, Nn, bs, bm, sn, sub, ab, col, dd, k0, k1, k2, k3, k5, hC, hbm⟩ := T.cls
  refine wpAny_Call_Name_kw (ld_glob I hg hm (PySem.W.callWith_K (h₀ := X.base) I.ok.mod.kin T.kC (thn (ha.run pos pins s σ H _ I h) fun us s1 ⟨vs, H1, I1, r1, hz, q1⟩ => ⟨I1.kIn, ?_⟩) he hpl) hdb)
  obtain ⟨hp, g, dr, tk, os⟩ := s1
  have a1 : hp.objs.size ≤ hp.objs.size + 1 := by omega
  have hn : H1 (hp.objs.size + 1) = none := I1.hok.fresh a1
  have hq := q1 _ hn
  let hp2 : Heap := (hp.push (PySem.W.kdv_tup us)).push (PySem.HandSPX.excO C hp.objs.size)
  have kk : ∀ b o, hp.get? b = some o → hp2.get? b = some o := fun b o eb => Heap.get?_push_of_some _ (Heap.get?_push_of_some _ eb)
  have hget : hp2.get? (hp.objs.size + 1) = some (PySem.HandSPX.excO C hp.objs.size) := by show Heap.get? (Heap.push _ _) _ = _; heap_get
  have I2 := I1.laid (t' := tk) (a := hp.objs.size + 1) (o := exo (hp.objs.size + 1) C none) (h' := hp2) kk a1 (exo_ok hget)
  have r2 : Vals (V.ref (hp.objs.size + 1) :: (vs ++ [])) (Value.ref (hp.objs.size + 1) :: (us ++ [])) := .cons rfl (r1.append .nil)
  have hl : (Value.ref (hp.objs.size + 1) :: us ++ []).length = ps.length := (r2.length.symm).trans (F1.len _ _ _ _ hq)
  have hus : us.length ≤ sizeLine := by
    rw [← Paired.length r1, sizeLine_eq]; omega
  have run := F1.run _ X.stack _ _ ⟨Value.ref (hp.objs.size + 1) :: us, []⟩ _ _ _ (fun _ _ _ => False) (hr.make C us []) (I2.env0.make C us []) (hb _ (Value.ref (hp.objs.size + 1) :: us) I2.kIn hl) r2 hq
  refine wpAny_call (PySem.HandSPX.call_own F.excBase_ValueError (fun Y => PySem.HandSPX.refsVE_contains Y bm hbm) (I1.kIn _ _ hC) (PySem.W.looks_findIn I1.kIn iC) (fun self => PySem.W.bind_fn I1.kIn self tI) hus (codeAny_mono run fun r s' hq' => ?_))
  cases r with
  | error er => exact hx pins σ _ _ er s' I2 hq'
  | ok fl =>
    cases fl with
    | ret u =>
      obtain ⟨v, H2, os2, bare2, un2, hok2, rv, ev, d, fs, ea, ed, hd1, q2⟩ := hq'
      subst ev
      obtain ⟨h2, g2, d2, t2, os'⟩ := s'
      exact ⟨rv, made_end T I1 a1 kk un2 hok2 os2 bare2 ea ed hd1 q2⟩
    | _ => exact False.elim hq'
end
/-- what an __init__ that stores its arguments promises: the fields in their order -/
def spIni (K : Fg) (C : Addr) (fs : List Str) : Sp := fun vs H Q _ => ∃ a ws, vs = .ref a :: ws ∧ ws.length = fs.length ∧ H a = some (exo a C none) ∧
  ∀ d H', H d = none → d ≠ a → H' a = some (exo a C (some d)) → H' d = some (exd d (fs.zip ws).reverse) → (∀ b, b ≠ a → b ≠ d → H' b = H b) → Q .non H'
section
variable {P : Program} {w : World} {K : Fg} {mg : Str → Option Value} {base : Heap}
theorem vis_par {N ps : List Str} {st : Stmt} {X : Cx} (hX : X.env.scope = defScope st) (S : FnScope N ps (defScope st)) {x : Str} (h : x ∈ ps) : Vis X.env.scope x := by
  rw [hX]
  rcases S.par x h with q | q
  · exact .inl q
  · exact .inr (.inl q)
theorem ok_ini1 {CX' : CXT} {qual x : Str} {st : Stmt} {fI C : Addr} {fd : FuncData} {p1 p2 p3 p4 : Pos} (F : Fun K "__init__" qual st fI fd) (S : FnScope ["self", x] ["self", x] (defScope st))
    (hB : defBody st = [.Assign [.Attribute (.Name "self" p1) x p2] (.Name x p3) p4]) (T : OexC K C) (nx : PySem.W.findIn K (.ref C) x = some none) (hdx : (x == ("__debug__" : Str)) = false := by decide) (hcx : (x == ("__classdict__" : Str)) = false := by decide)
    (hsw : ∀ env, swapsWith (.Name x p3) (some (.Attribute (.Name "self" p1) x p2)) p4.line env = pure false := by intro _; rfl) : FnOk P w K mg base CX' 1 fI fd ["self", x] (spIni K C [x]) := by
  obtain ⟨oc, od, kV, doc, pm, an, cdv, ct', osl, rfl, lk, hcd⟩ := F.ex
  refine fn_of lk hcd S (fun vs H Q E q => by obtain ⟨a, ws, rfl, hl, _⟩ := q; simp at hl ⊢; exact hl) fun A outer s H vs Q E hr q => ?_
  obtain ⟨a, ws, rfl, hl, ha, k⟩ := q
  obtain ⟨w1, rfl⟩ : ∃ w1, ws = [w1] := by
    match ws, hl with
    | [w1], _ => exact ⟨w1, rfl⟩
  rw [hB]
  refine ⟨_, pss_one (ps_ost (pe_var (i := 0) rfl (vis_par rfl S (by simp))) (pe_var (i := 1) rfl (vis_par rfl S (by simp)) hdx hcx) (hsw _)), ?_⟩
  refine ⟨w1, rfl, _, rfl, a, C, rfl, T, nx, .inl ⟨ha, fun d nd dne => ?_⟩⟩
  refine k d _ nd dne upd_same ((upd_ne dne).trans upd_same) fun b b1 b2 => (upd_ne b1).trans (upd_ne b2)
theorem ok_ini2 {CX' : CXT} {qual x y : Str} {st : Stmt} {fI C : Addr} {fd : FuncData} {p1 p2 p3 p4 q1 q2 q3 q4 : Pos} (F : Fun K "__init__" qual st fI fd) (S : FnScope ["self", x, y] ["self", x, y] (defScope st))
    (hB : defBody st = [.Assign [.Attribute (.Name "self" p1) x p2] (.Name x p3) p4, .Assign [.Attribute (.Name "self" q1) y q2] (.Name y q3) q4]) (T : OexC K C) (nx : PySem.W.findIn K (.ref C) x = some none) (ny : PySem.W.findIn K (.ref C) y = some none)
    (hdx : (x == ("__debug__" : Str)) = false := by decide) (hcx : (x == ("__classdict__" : Str)) = false := by decide) (hdy : (y == ("__debug__" : Str)) = false := by decide) (hcy : (y == ("__classdict__" : Str)) = false := by decide)
    (hsw : ∀ env, swapsWith (.Name x p3) (some (.Attribute (.Name "self" p1) x p2)) p4.line env = pure false := by intro _; rfl) (hsw2 : ∀ env, swapsWith (.Name y q3) (some (.Attribute (.Name "self" q1) y q2)) q4.line env = pure false := by intro _; rfl) :
    FnOk P w K mg base CX' 1 fI fd ["self", x, y] (spIni K C [x, y]) := by
  obtain ⟨oc, od, kV, doc, pm, an, cdv, ct', osl, rfl, lk, hcd⟩ := F.ex
  refine fn_of lk hcd S (fun vs H Q E q => by obtain ⟨a, ws, rfl, hl, _⟩ := q; simp at hl ⊢; exact hl) fun A outer s H vs Q E hr q => ?_
  obtain ⟨a, ws, rfl, hl, ha, k⟩ := q
  obtain ⟨w1, w2, rfl⟩ : ∃ w1 w2, ws = [w1, w2] := by
    match ws, hl with
    | [w1, w2], _ => exact ⟨w1, w2, rfl⟩
  rw [hB]
  refine ⟨_, pss_cons (ps_ost (pe_var (i := 0) rfl (vis_par rfl S (by simp))) (pe_var (i := 1) rfl (vis_par rfl S (by simp)) hdx hcx) (hsw _)) (pss_one (ps_ost (pe_var (i := 0) rfl (vis_par rfl S (by simp))) (pe_var (i := 2) rfl (vis_par rfl S (by simp)) hdy hcy) (hsw2 _))), ?_⟩
  refine ⟨w1, rfl, _, rfl, a, C, rfl, T, nx, .inl ⟨ha, fun d nd dne => ?_⟩⟩
  refine ⟨w2, rfl, _, rfl, a, C, rfl, T, ny, .inr ⟨d, _, upd_same, (upd_ne dne).trans upd_same, by show 1 ≤ 900; decide, ?_⟩⟩
  refine k d _ nd dne ((upd_ne (Ne.symm dne)).trans upd_same) upd_same fun b b1 b2 => (upd_ne b2).trans ((upd_ne b1).trans (upd_ne b2))
end
/-- what the text says of an error's class -/
structure ExT (K : Fg) (mg : Str → Option Value) (ct : Str → Addr) (nm : Str) (C : Addr) : Prop where
  ct : ct nm = C
  gC : mg nm = some (.ref C)
  oex : OexC K C
  ga : PySem.W.findIn K (.ref C) "__getattribute__" = some (some (.builtin "BaseException.__getattribute__"))
  gg : PySem.W.findIn K (.ref C) "__getattr__" = some none
  hd : PySem.W.hasDictIn K C = true
  ha : PySem.W.findIn K (.ref C) "__class__" = some (some (.builtin "object.__class__"))
  hm : PySem.W.mroIn K C (.type "object") = some true
/-- .. and of its __init__ -/
structure IniT (P : Program) (w : World) (K : Fg) (mg : Str → Option Value) (base : Heap) (C : Addr) (fs : List Str) : Prop where
  ex : ∃ fI fd, PySem.W.findIn K (.ref C) "__init__" = some (some (.ref fI)) ∧ PySem.W.typeIn K (.ref fI) = some (.type "function") ∧ FnOk P w K mg base (L2N.CX P w) 1 fI fd ("self" :: fs) (spIni K C fs) ∧ Binds K fd ("self" :: fs) []
/-- raise C(e, ..) -/
def dRaise (nm : Str) (fs : List Str) (fa : DSt → DHp → R (List D)) : DSt → DHp → SR := fun sd h => sbind (fa sd h) sd fun ds h1 => if ds.length = fs.length then .ex ⟨nm, some (fs.zip ds).reverse⟩ sd h1 else .no
theorem FR.app {K : Fg} {μ : List Addr} {H : Hp} {v w : List (Str × V)} {d e : List (Str × D)} (h1 : FR K μ H v d) (h2 : FR K μ H w e) : FR K μ H (v ++ w) (d ++ e) := by
  induction h1 with
  | nil => exact h2
  | cons a t ih => exact .cons a ih
theorem FR.of_zip {K : Fg} {μ : List Addr} {H : Hp} : ∀ {fs : List Str} {vs : List V} {ds : List D}, DnL K μ H vs ds → FR K μ H (fs.zip vs).reverse (fs.zip ds).reverse
  | [], _, _, _ => .nil
  | f :: fs, [], _, h => by cases h; simp; exact .nil
  | f :: fs, v :: vs, _, h => by
    cases h with
    | cons a t =>
      rw [List.zip_cons_cons, List.zip_cons_cons, List.reverse_cons, List.reverse_cons]
      exact (FR.of_zip t).app (.cons a .nil)
theorem ds_raise {X : Cx} {p : Pm} {e : Expr} {es : List Expr} {fa : DSt → DHp → R (List D)} {nm : Str} {C : Addr} {fs : List Str} {pn pos pos' : Pos} (hc : X.calm = true) (T : ExT X.K X.mg p.ct nm C) (J : IniT X.prog X.w X.K X.mg X.base C fs) (hr : Room 2 X.A) (tk : L2N.Takes X p.W)
    (hg : Gl X nm) (ha : DA p X (e :: es) fa) (hlen : (e :: es).length = fs.length := by rfl) (hsm : fs.length ≤ 1000 := by decide) (hdb : (nm == ("__debug__" : Str)) = false := by decide)
    (he : starEach (e :: es) X.env = (false, eval e X.env) :: starEach es X.env := by rfl) (hpl : (backTo pos (starEach es X.env)).any (·.1) = false := by rfl) :
    DS p X (.Raise (some (.Call (.Name nm pn) (e :: es) [] pos)) none pos') (dRaise nm fs fa) := by
  obtain ⟨fI, fd, iC, tI, F1, hb⟩ := J.ex
  have hx : Passes (L2N.CX X.prog X.w) X (fun _ _ _ => False) := L2N.passes_call tk fun _ _ _ _ z => z.elim
  refine ⟨(L2N.ps_raise hc tk (pmk_ini T.oex iC tI F1 hr hb hx hg T.gC ha.pa hdb he hpl)).con fun E σ H q => ?_⟩
  obtain ⟨μ, sd, h, hs, hS, hr, q⟩ := q
  refine ⟨μ, sd, h, hs, hS, hr, (SPst.fst hs (fun _ => hr.mu) hS q).imp fun xs H1 ⟨μ1, h1, ds, e1, r1, n1, q1⟩ => ?_⟩
  split at q1
  · rename_i hl
    refine ⟨by rw [n1.length, hl]; exact hsm, fun a na => ?_⟩
    refine ⟨a, xs, by rw [List.append_nil], by rw [n1.length, hl], upd_same, fun d H' nd dne ha' hd' hkeep => ?_⟩
    have nd1 : H1 d = none := by rw [← nd]; exact (upd_ne dne).symm
    have eH : upd (del H' a) d (.xd (fs.zip xs).reverse) = upd H1 d (.xd (fs.zip xs).reverse) := by
      funext b
      by_cases hbd : b = d
      · subst hbd; rw [upd_same, upd_same]
      · rw [upd_ne hbd, upd_ne hbd]
        by_cases hba : b = a
        · subst hba; rw [del_same, na]
        · rw [del_ne hba, hkeep b hba hbd, upd_ne hba]
    refine ⟨rfl, d, _, ha', hd', nd1, ?_⟩
    rw [eH]
    have e2 := ext_new r1 nd1 (.xd (fs.zip xs).reverse)
    refine q1 μ1 _ (some d) σ _ e2 (r1.laid nd1 _) ((hs.ext e1 fun _ => hr.mu).ext e2 fun _ => r1.mu) (p.st e2 (fun _ => r1.mu) (p.st e1 (fun _ => hr.mu) hS)) ⟨by rw [T.ct], d, _, rfl, upd_same, FR.of_zip (n1.ext e2 fun _ => r1.mu)⟩
  · exact q1.elim
end DL
end

section
set_option Elab.async false
set_option linter.all false
set_option maxRecDepth 100000
set_option maxHeartbeats 1000000
/-! DL8: try, what is called in an except suite; comprehensions; methods of lists. -/
namespace DL
open PySem PySem.Spec PyProof.Rows
open L2 hiding St
theorem FR.ext {K : Fg} {μ μ' : List Addr} {H H' : Hp} (x : Ext μ H μ' H') (m : ∀ a ∈ μ, Mut (H a)) {v : List (Str × V)} {d : List (Str × D)} (h : FR K μ H v d) : FR K μ' H' v d := by
  induction h with
  | nil => exact .nil
  | cons a t ih => exact .cons (a.ext x m) ih
theorem ExR.ext {K : Fg} {ct : Str → Addr} {μ μ' : List Addr} {H H' : Hp} {e : Exn} {cls : Value} {d : Option Addr} (x : Ext μ H μ' H') (m : ∀ a ∈ μ, Mut (H a)) (h : ExR K ct μ H e cls d) : ExR K ct μ' H' e cls d := by
  refine ⟨h.1, ?_⟩
  have h2 := h.2
  cases ef : e.fs with
  | none => rw [ef] at h2; exact h2
  | some fs =>
    rw [ef] at h2
    obtain ⟨dd, xs, h3, h4, h5⟩ := h2
    refine ⟨dd, xs, h3, x.fr _ _ h4 fun z => ?_, ?_⟩
    · have := m dd z
      rw [h4] at this; exact this
    · exact h5.ext x m
/-- within the suite of an except clause: slot i holds the exception at a, which is e -/
def pmS (K : Fg) (ct : Str → Addr) (i : Nat) (a : Addr) (cls : Value) (d : Option Addr) (e : Exn) : Pm where
  ct := ct
  W := fun _ _ _ _ => False
  S := fun σ μ H => σ[i]? = some (some (.ref a)) ∧ ExR K ct μ H e cls d
  st := fun x m h => ⟨h.1, h.2.ext x m⟩
theorem setOk_S {K : Fg} {ct : Str → Addr} {i : Nat} {a : Addr} {cls : Value} {d : Option Addr} {e : Exn} {j : Nat} (h : j ≠ i) : SetOk (pmS K ct i a cls d e) j := fun σ v μ H z => ⟨by rw [List.getElem?_set_ne h]; exact z.1, z.2⟩
/-- try: .. except X as n: ..; tb tells which classes the clause takes -/
def dTry (tb : List (Str × Bool)) (i : Nat) (fb : DSt → DHp → SR) (fs : Exn → DSt → DHp → SR) : DSt → DHp → SR := fun sd h => match fb sd h with
  | .ex e sd' h' => match tb.lookup e.cls with
    | some true => if i < sd'.length then (match fs e (sd'.set i (some .exc)) h' with
      | .nx s2 h2 => .nx (s2.set i none) h2
      | .bk s2 h2 => .bk (s2.set i none) h2
      | .ct s2 h2 => .ct (s2.set i none) h2
      | .rt d h2 => .rt d h2
      | _ => .no) else .no
    | some false => .ex e sd' h'
    | none => .no
  | r => r
section
variable {X : Cx} {p : Pm} {x n : Str} {c : Value} {i : Nat} {body suite : List Stmt} {b₀ : Stmt} {np pos pos' : Pos} {fb : DSt → DHp → SR} {fs : Exn → DSt → DHp → SR} {tb : List (Str × Bool)}
theorem ds_try (hs : X.stack = X.env :: X.outer) (hf : X.env.frame = some X.env.locals) (hN : X.N.Nodup) (hi : X.N[i]? = some n) (hln : X.env.kindOf n = some .local) (hc : Names X x c) (tk : L2N.Takes X p.W) (hS : ∀ σ μ H, p.S σ μ H)
    (htb : ∀ nm b, tb.lookup nm = some b → PySem.W.exmOne X.K (.ref (p.ct nm)) c = some b)
    (hb : ∀ (W : WX) (pn : List (Addr × Obj)) (xe : Value → Shared → Prop), L2N.Takes (X.tr pn xe) W → PassesOwn (model X.prog X.w) X.A X.env xe → DSs { p with W := W } (X.tr pn xe) body fb)
    (hsu : ∀ (a : Addr) (oe : Obj) (cls : Value) (d : Option Addr) (pn : List (Addr × Obj)) (e : Exn), L2N.Zn cls d oe → (∃ vs, oe.data = .fields vs) → DSs (pmS X.K p.ct i a cls d e) (X.suite a ((a, oe) :: pn)) (b₀ :: suite) (fs e)) :
    DS p X (.Try body [.ExceptHandler (some (.Name x np)) (some n) (b₀ :: suite) pos'] [] [] pos) (dTry tb i fb fs) := by
  have key := L2N.ps_try_as (pos := pos) (np := np) (pos' := pos') (tb := fun W => rdgS X.K { p with W := W } fb) (ts := fun a cls d E σ H => ∃ e, rdgS X.K (pmS X.K p.ct i a cls d e) (fs e) E σ H) hs hf hN hi hln hc tk (fun W pn xe t1 t2 => (hb W pn xe t1 t2).ps)
    (fun a oe cls d pn z y => ⟨fun pins s σ H E I ⟨e, q⟩ => (hsu a oe cls d pn e z y).ps.run pins s σ H E I q⟩)
  refine ⟨key.con fun E σ H q => ?_⟩
  obtain ⟨μ, sd, h, hs, _, hr, q⟩ := q
  refine ⟨μ, sd, h, hs, hS _ _ _, hr, ?_⟩
  unfold dTry at q
  cases eb : fb sd h with
  | nx s2 h2 => rw [eb] at q; exact q
  | bk s2 h2 => rw [eb] at q; exact q
  | ct s2 h2 => rw [eb] at q; exact q
  | rt s2 h2 => rw [eb] at q; exact q
  | no => rw [eb] at q; exact q.elim
  | ex e sd' h' =>
    rw [eb] at q
    have q0 : SPst X.K p μ H (match tb.lookup e.cls with
      | some true => if i < sd'.length then (match fs e (sd'.set i (some .exc)) h' with
        | .nx s2 h2 => .nx (s2.set i none) h2
        | .bk s2 h2 => .bk (s2.set i none) h2
        | .ct s2 h2 => .ct (s2.set i none) h2
        | .rt d h2 => .rt d h2
        | _ => .no) else .no
      | some false => .ex e sd' h'
      | none => .no) E := q
    intro μ' cls dd σ' H' x' hr' hs' _ hx
    have hcls := hx.1
    cases et : tb.lookup e.cls with
    | none => rw [et] at q0; exact q0.elim
    | some b =>
      rw [et] at q0
      refine ⟨b, by rw [hcls]; exact htb _ _ et, fun hbt a na => ?_, fun hbf => ?_⟩
      · subst hbt
        have q1 : SPst X.K p μ H (if i < sd'.length then (match fs e (sd'.set i (some .exc)) h' with
          | .nx s2 h2 => .nx (s2.set i none) h2
          | .bk s2 h2 => .bk (s2.set i none) h2
          | .ct s2 h2 => .ct (s2.set i none) h2
          | .rt d h2 => .rt d h2
          | _ => .no) else .no) E := q0
        split at q1
        case isFalse => exact q1.elim
        rename_i hil0
        have hil : i < σ'.length := by rw [hs'.len]; exact hil0
        refine ⟨e, μ', sd'.set i (some .exc), h', hs'.set i (.exc _), ⟨List.getElem?_set_self hil, hx⟩, hr', ?_⟩
        cases ef : fs e (sd'.set i (some .exc)) h' with
        | nx s2 h2 => rw [ef] at q1; exact fun μ2 σ2 H2 x2 r2 t2 _ => q1 μ2 _ H2 (x'.trans x2) r2 (t2.del i none) (hS _ _ _)
        | bk s2 h2 => rw [ef] at q1; exact fun μ2 σ2 H2 x2 r2 t2 _ => q1 μ2 _ H2 (x'.trans x2) r2 (t2.del i none) (hS _ _ _)
        | ct s2 h2 => rw [ef] at q1; exact fun μ2 σ2 H2 x2 r2 t2 _ => q1 μ2 _ H2 (x'.trans x2) r2 (t2.del i none) (hS _ _ _)
        | rt d h2 => rw [ef] at q1; exact fun μ2 v H2 x2 r2 t2 => q1 μ2 _ H2 (x'.trans x2) r2 t2
        | ex y s2 h2 => rw [ef] at q1; exact q1.elim
        | no => rw [ef] at q1; exact q1.elim
      · subst hbf
        exact q0 μ' cls dd σ' H' x' hr' hs' (hS _ _ _) hx
end
/-! ### what stands in such a suite -/
/-- e.f of the exception e -/
def dXf (e : Exn) (nms : List Str) (f : Str) : DSt → DHp → R D := fun _ h => if e.cls ∈ nms then (match e.fs with
  | some fs => match fs.lookup f with
    | some d => .ok d h
    | none => .no
  | none => .no) else .no
theorem FR.look {K : Fg} {μ : List Addr} {H : Hp} {f : Str} {d : D} : ∀ {vs : List (Str × V)} {ds : List (Str × D)}, FR K μ H vs ds → ds.lookup f = some d → ∃ v, vs.lookup f = some v ∧ Dn K μ H v d
  | _, _, .nil, q => by cases q
  | _, _, .cons (k := k) a t, q => by
    rw [List.lookup_cons] at q ⊢
    cases e : f == k with
    | true => rw [e] at q; cases q; exact ⟨_, rfl, a⟩
    | false => rw [e] at q; exact FR.look t q
/-- an error class's facts, by its name -/
def ExC (K : Fg) (ct : Str → Addr) (nm : Str) : Prop := ∃ mg, ExT K mg ct nm (ct nm)
section
variable {X : Cx} {ct : Str → Addr} {i : Nat} {a : Addr} {oe : Obj} {cls : Value} {d : Option Addr} {e : Exn} {pn : List (Addr × Obj)} {x f : Str} {p1 p2 pos : Pos} {nms : List Str}
theorem de_xf (hz : L2N.Zn cls d oe) (hf : ∃ vs, oe.data = .fields vs) (hN : X.N[i]? = some x) (hv : Vis X.env.scope x) (hn : ∀ nm ∈ nms, XfC X.K (ct nm) ∧ PySem.W.findIn X.K (.ref (ct nm)) f = some none)
    (hd : (x == ("__debug__" : Str)) = false := by decide) (hcd : (x == ("__classdict__" : Str)) = false := by decide)
    (hb : attributeBase (.Name x p1) f X.env (eval (.Name x p1) X.env) = eval (.Name x p1) X.env := by rfl) : DE (pmS X.K ct i a cls d e) (X.suite a ((a, oe) :: pn)) (.Attribute (.Name x p1) f pos) (dXf e nms f) := by
  by_cases hm : e.cls ∈ nms
  · obtain ⟨t1, t2⟩ := hn _ hm
    refine ⟨(pe_xf (C := ct e.cls) t1 t2 hz.zc hf (pe_var (i := i) hN hv hd hcd) hb).con fun σ H Q q => ?_⟩
    obtain ⟨μ, sd, h, hs, hS, hr, q⟩ := q
    unfold dXf at q
    rw [if_pos hm] at q
    have hS2 := hS.2.2
    cases ef : e.fs with
    | none => rw [ef] at q; exact q.elim
    | some fs =>
      rw [ef] at q hS2
      obtain ⟨dd, xs, h3, h4, h5⟩ := hS2
      have q0 : Pst X.K (pmS X.K ct i a cls d e) μ H σ (Dn X.K) (match fs.lookup f with | some d => R.ok d h | none => .no) Q := q
      cases el : fs.lookup f with
      | none => rw [el] at q0; exact q0.elim
      | some v =>
        rw [el] at q0
        obtain ⟨w, ew, nw⟩ := h5.look el
        exact ⟨_, hS.1, rfl, hS.2.1, dd, xs, w, h3, h4, ew, q0 μ w H (.refl _ _) hr nw⟩
  · refine ⟨⟨fun pins s σ H Q I q => ?_⟩⟩
    obtain ⟨μ, sd, h, hs, hS, hr, q⟩ := q
    unfold dXf at q
    rw [if_neg hm] at q
    exact q.elim
/-- isinstance(e, C) -/
def dIsE (e : Exn) (tb : List (Str × Bool)) : DSt → DHp → R D := fun _ h => match tb.lookup e.cls with
  | some b => .ok (.bl b) h
  | none => .no
theorem cr_isE (hz : L2N.Zn cls d oe) (hf : ∃ vs, oe.data = .fields vs) (hn : PySem.W.specialIn X.K (.builtin "object.__class__") "__get__" = some (some (.builtin "getset_descriptor.__get__"))) (ht : PySem.W.takesIn X.K (.builtin "object.__class__") = some true) :
    CallR (X.suite a ((a, oe) :: pn)) (.builtin "isinstance") fun xs H Q => ∃ mg nm c cv b, xs = [.ref a, c] ∧ (∀ u, RelV c u → u = cv) ∧ ExT X.K mg ct nm (ct nm) ∧ cls = .ref (ct nm) ∧ (∀ dd, d = some dd → ∃ fs, H dd = some (.xd fs)) ∧ PySem.W.kitOne X.K (.ref (ct nm)) cv = some b ∧ Q (.bl b) H := by
  rintro pins s σ H xs us Q I r ⟨mg, nm, c, cv, b, rfl, hcv, T, rfl, hdd, e, q⟩
  cases r with
  | cons rx rr =>
    obtain ⟨u, rfl, rt⟩ := Vals.one rr
    cases rx
    obtain rfl := hcv _ rt
    obtain ⟨hget, _⟩ := I.pin (a, oe) (List.mem_append.mpr (.inl List.mem_cons_self))
    obtain ⟨vs, hv⟩ := hf
    obtain ⟨z1, z2, _⟩ := hz
    have J : ∃ od, PySem.W.InstAt s.heap a oe (ct nm) od := by
      cases ed : oe.dict with
      | none => exact ⟨none, hget, z1, by unfold PySem.W.notCls; rw [hv] <;> rfl, by rw [ed]; trivial⟩
      | some dd =>
        obtain ⟨fs, hfs⟩ := hdd dd (z2.symm.trans ed)
        obtain ⟨mA, hns, _⟩ := I.hok dd _ hfs
        obtain ⟨od, ho, _⟩ := lookIn_ns hns
        exact ⟨some od, hget, z1, by unfold PySem.W.notCls; rw [hv] <;> rfl, by rw [ed]; exact ho⟩
    obtain ⟨od, J⟩ := J
    have hcl : (PySem.W.clsIn X.K (ct nm)).isSome = true := by obtain ⟨cd, hc, _⟩ := PySem.W.any_some T.hd; rw [hc]; rfl
    exact PySem.W.kia_one (PySem.W.kitx_exc hcl T.ga T.gg T.oex.exC T.ha hn ht T.hm) I.kIn J e (fun z => nomatch z) fun tk => ⟨.bl b, H, I.kept (t' := tk) fun _ _ z => z, rfl, q⟩
theorem de_isE {tb : List (Str × Bool)} {ce : Expr} {cv : V} {cu : Value} {pn' : Pos} (hz : L2N.Zn cls d oe) (hf : ∃ vs, oe.data = .fields vs) (hn : PySem.W.specialIn X.K (.builtin "object.__class__") "__get__" = some (some (.builtin "getset_descriptor.__get__")))
    (ht : PySem.W.takesIn X.K (.builtin "object.__class__") = some true) (hN : X.N[i]? = some x) (hv : Vis X.env.scope x) (hce : PE (X.suite a ((a, oe) :: pn)) ce (tC cv)) (hcv : ∀ u, RelV cv u → u = cu)
    (htb : ∀ nm b, tb.lookup nm = some b → ExC X.K ct nm ∧ PySem.W.kitOne X.K (.ref (ct nm)) cu = some b) (hg : Gl X "isinstance") (hm : X.mg "isinstance" = none)
    (hd : (x == ("__debug__" : Str)) = false := by decide) (hcd : (x == ("__classdict__" : Str)) = false := by decide)
    (he1 : starEach [.Name x p1, ce] X.env = (false, eval (.Name x p1) X.env) :: starEach [ce] X.env := by rfl) (he2 : starEach [ce] X.env = (false, eval ce X.env) :: starEach [] X.env := by rfl) (hpl : (backTo pos (starEach [ce] X.env)).any (·.1) = false := by rfl) :
    DE (pmS X.K ct i a cls d e) (X.suite a ((a, oe) :: pn)) (.Call (.Name "isinstance" pn') [.Name x p1, ce] [] pos) (dIsE e tb) := by
  refine ⟨(pe_callB (cr_isE (ct := ct) (pn := pn) (a := a) hz hf hn ht) hg hm boot_isinstance (pa_cons (pe_var (i := i) hN hv hd hcd) (pa_cons hce pa_nil he2) he1) (by decide) (by decide) he1 hpl).con fun σ H Q q => ?_⟩
  obtain ⟨μ, sd, h, hs, hS, hr, q⟩ := q
  unfold dIsE at q
  cases et : tb.lookup e.cls with
  | none => rw [et] at q; exact q.elim
  | some b =>
    rw [et] at q
    obtain ⟨⟨mg, T⟩, kt⟩ := htb _ _ et
    refine ⟨_, hS.1, mg, e.cls, cv, cu, b, rfl, hcv, T, hS.2.1, fun dd edd => ?_, kt, q μ _ H (.refl _ _) hr (.bl _)⟩
    have h2 := hS.2.2
    cases ef : e.fs with
    | none => rw [ef] at h2; rw [h2] at edd; cases edd
    | some fs =>
      rw [ef] at h2
      obtain ⟨d2, xs, h3, h4, _⟩ := h2
      rw [h3] at edd; cases edd
      exact ⟨xs, h4⟩
end
/-! ### defs that are called in a suite; they raise nothing -/
def FnDH (P : Program) (w : World) (K : Fg) (mg : Str → Option Value) (base : Heap) (ct : Str → Addr) (k : Nat) (f : Addr) (fd : FuncData) (ps : List Str) (sem : Sem') : Prop :=
  L2H.FnH P w K mg base (L2N.CX P w) k f fd ps (spD K ct ps.length sem)
section
variable {P : Program} {w : World} {K : Fg} {mg : Str → Option Value} {base : Heap} {ct : Str → Addr}
theorem fnDH_of {x qual : Str} {st : Stmt} {f : Addr} {fd : FuncData} {N ps : List Str} {k : Nat} {body : DSt → DHp → SR} (F : Fun K x qual st f fd) (S : FnScope N ps (defScope st))
    (hb : ∀ (cdv : Value) (A : Around) (outer : List Env) (s : Shared) (H : Hp) (E : XK) (pp : Addr × Obj), L2H.Hot1 A pp → L2H.RoomH k (A.deeper (envOfC qual (defScope st) s.heap.objs.size f cdv)) →
      DSs (pmOf ct fun cls d _ H => E cls d H) (L2H.cxH (L2N.CX P w) P w K mg base N qual (defScope st) f cdv A outer s H E pp) (defBody st) body) : FnDH P w K mg base ct (k + 1) f fd ps (semOf N.length body) := by
  obtain ⟨oc, od, kV, doc, pm, an, cdv, ct', osl, rfl, lk, hcd⟩ := F.ex
  refine L2H.fn_ofH lk hcd S (fun vs H Q E q => q.1) fun A outer s H vs Q E pp hot hr q => ?_
  refine ⟨_, (hb cdv A outer s H E pp hot hr).ps, ?_⟩
  obtain ⟨hl, μ, h, ds, r, n, q⟩ := q
  have hn : vs.length = ds.length := n.length
  refine ⟨μ, ds.map some ++ List.replicate (N.length - ds.length) none, h, by unfold L2.start; rw [hn]; exact StR.start n _, trivial, r, ?_⟩
  have q1 := RPst.gc r q
  generalize body (ds.map some ++ List.replicate (N.length - ds.length) none) h = rr at q1 ⊢
  cases rr with
  | nx sd h' => exact fun μ' σ' H' e r' hs hS => q1 μ' _ H' e r' .non
  | rt d h' => exact fun μ' v H' e r' n' => q1 μ' v H' e r' n'
  | bk sd h' => exact q1.elim
  | ct sd h' => exact q1.elim
  | ex x sd h' => exact fun μ' cls dd σ H' e r' hs hS hx => q1 μ' cls dd H' e r' hx
  | no => exact q1
end
/-- a meaning that lets no error out -/
def noX (f : Sem') : Sem' := fun ds h => match f ds h with
  | .ex _ _ => .no
  | r => r
section
variable {X : Cx} {p : Pm} {k : Nat} {f : Addr} {fd : FuncData} {ps : List Str} {sem : Sem'} {x : Str} {pn pos : Pos} {e : Expr} {es : List Expr} {fs : DSt → DHp → R (List D)}
theorem de_callH (F : FnDH X.prog X.w X.K X.mg X.base p.ct k f fd ps sem) (hr : L2H.RoomH k X.A) (hc : L2H.HotC X) (hg : Gl X x) (hm : X.mg x = some (.ref f)) (hk : PySem.W.keepIn X.K (.ref f) = true) (hb : Binds X.K fd ps []) (tk : L2N.Takes X fun _ _ _ _ => False)
    (ha : DA p X (e :: es) fs) (hdl : ∀ sd h ds h', fs sd h = .ok ds h' → ds.length = (e :: es).length) (hlen : (e :: es).length = ps.length := by rfl) (hdb : (x == ("__debug__" : Str)) = false := by decide)
    (he : starEach (e :: es) X.env = (false, eval e X.env) :: starEach es X.env := by rfl) (hpl : (backTo pos (starEach es X.env)).any (·.1) = false := by rfl) : DE p X (.Call (.Name x pn) (e :: es) [] pos) (dArgs (noX sem) fs) := by
  refine ⟨(L2H.pe_callH F hr hc hg hm hk hb (fun σ => L2N.passAt tk σ) ha.pa hdb he hpl).con fun σ H Q q => ?_⟩
  obtain ⟨μ, sd, h, hs, hS, hr, q⟩ := q
  refine ⟨μ, sd, h, hs, hS, hr, ?_⟩
  unfold dArgs at q
  cases ef : fs sd h with
  | no => rw [ef] at q; exact q.elim
  | ex x hx => rw [ef] at q; exact q
  | ok ds h1 =>
    rw [ef] at q
    have q' : Pst X.K p μ H σ (Dn X.K) (noX sem ds h1) Q := q
    intro μ1 xs H1 e1 r1 n1
    refine ⟨by rw [n1.length, hdl _ _ _ _ ef, hlen], μ1, h1, ds, r1, n1, ?_⟩
    have q2 := Pst.ext e1 q'
    unfold noX at q2
    cases er : sem ds h1 with
    | no => rw [er] at q2; exact q2
    | ok d h2 => rw [er] at q2; exact q2
    | ex x h2 => rw [er] at q2; exact q2.elim
end
theorem hotC_suite {X : Cx} {a : Addr} {oe : Obj} {cls : Value} {d : Option Addr} {pn : List (Addr × Obj)} (hz : L2N.Zn cls d oe) (hf : ∃ vs, oe.data = .fields vs) : L2H.HotC (X.suite a ((a, oe) :: pn)) := by
  obtain ⟨vs, hv⟩ := hf
  exact ⟨(a, oe), ⟨rfl, vs, hv, hz.2.2 vs hv⟩, List.mem_cons_self⟩
theorem takesN0 {X : Cx} : L2N.Takes X (fun _ _ _ _ => False) := fun u s' ⟨a, B, sI, pins, σ, H, cls, d, e, I, nb, up, sky, na, os, ag, w⟩ => w.elim
end DL
end

section
set_option Elab.async false
set_option linter.all false
set_option maxRecDepth 100000
set_option maxHeartbeats 1000000
/-! DL9: defs by name; the law's end. -/
namespace DL
open PySem PySem.Spec PyProof.Rows
open L2 hiding St
/-- a class's address by its name -/
def ctOf (mg : Str → Option Value) (nm : Str) : Addr := match mg nm with
  | some (.ref a) => a
  | _ => 0
theorem ctOf_eq {mg : Str → Option Value} {nm : Str} {C : Addr} (h : mg nm = some (.ref C)) : ctOf mg nm = C := by unfold ctOf; rw [h]
/-- a def of the text stands under its name -/
def DefT (K : Fg) (mg : Str → Option Value) (nm : Str) (st : Stmt) (ps : List Str) : Prop := ∃ f fd, Fun K nm nm st f fd ∧ mg nm = some (.ref f) ∧ Binds K fd ps []
/-- a def that may be called by its name, with its meaning -/
def FnT (P : Program) (w : World) (K : Fg) (mg : Str → Option Value) (base : Heap) (k : Nat) (nm : Str) (ps : List Str) (sem : Sem') : Prop :=
  ∃ f fd, FnD P w K mg base (ctOf mg) k f fd ps sem ∧ mg nm = some (.ref f) ∧ PySem.W.keepIn K (.ref f) = true ∧ Binds K fd ps [] ∧ ∃ oc od osl, K.lookup f = some ⟨oc, od, .func fd, osl⟩
def FnTH (P : Program) (w : World) (K : Fg) (mg : Str → Option Value) (base : Heap) (k : Nat) (nm : Str) (ps : List Str) (sem : Sem') : Prop :=
  ∃ f fd, FnDH P w K mg base (ctOf mg) k f fd ps sem ∧ mg nm = some (.ref f) ∧ PySem.W.keepIn K (.ref f) = true ∧ Binds K fd ps []
/-- the wish of a def's body -/
abbrev pmD (mg : Str → Option Value) (E : XK) : Pm := pmOf (ctOf mg) fun cls d _ H => E cls d H
section
variable {P : Program} {w : World} {K : Fg} {mg : Str → Option Value} {base : Heap}
theorem fnT_of {x : Str} {st : Stmt} {N ps : List Str} (k : Nat) {body : DSt → DHp → SR} (F : DefT K mg x st ps) (S : FnScope N ps (defScope st))
    (hb : ∀ (f : Addr) (cdv : Value) (A : Around) (outer : List Env) (s : Shared) (H : Hp) (E : XK), Room k (A.deeper (envOfC x (defScope st) s.heap.objs.size f cdv)) →
      L2N.Takes (cxOf (L2N.CX P w) P w K mg base N x (defScope st) f cdv A outer s H E) (pmD mg E).W →
      DSs (pmD mg E) (cxOf (L2N.CX P w) P w K mg base N x (defScope st) f cdv A outer s H E) (defBody st) body) : FnT P w K mg base (k + 1) x ps (semOf N.length body) := by
  obtain ⟨f, fd, h1, h2, h3⟩ := F
  exact ⟨f, fd, fnD_of h1 S fun cdv A outer s H E hr => hb f cdv A outer s H E hr (L2N.takes_of rfl rfl rfl rfl), h2, h1.kp, h3, by obtain ⟨oc, od, _, _, _, _, _, _, osl, _, lk, _⟩ := h1.ex; exact ⟨oc, od, osl, lk⟩⟩
theorem fnTH_of {x : Str} {st : Stmt} {N ps : List Str} (k : Nat) {body : DSt → DHp → SR} (F : DefT K mg x st ps) (S : FnScope N ps (defScope st))
    (hb : ∀ (f : Addr) (cdv : Value) (A : Around) (outer : List Env) (s : Shared) (H : Hp) (E : XK) (pp : Addr × Obj), L2H.Hot1 A pp → L2H.RoomH k (A.deeper (envOfC x (defScope st) s.heap.objs.size f cdv)) →
      DSs (pmD mg E) (L2H.cxH (L2N.CX P w) P w K mg base N x (defScope st) f cdv A outer s H E pp) (defBody st) body) : FnTH P w K mg base (k + 1) x ps (semOf N.length body) := by
  obtain ⟨f, fd, h1, h2, h3⟩ := F
  exact ⟨f, fd, fnDH_of h1 S fun cdv A outer s H E pp hot hr => hb f cdv A outer s H E pp hot hr, h2, h1.kp, h3⟩
theorem FnT.mono {j k : Nat} {nm : Str} {ps : List Str} {sem : Sem'} (F : FnT P w K mg base j nm ps sem) (h : j ≤ k) : FnT P w K mg base k nm ps sem := by
  obtain ⟨f, fd, h1, h2⟩ := F
  exact ⟨f, fd, h1.mono h, h2⟩
end
section
variable {X : Cx} {p : Pm} {k j : Nat} {ps : List Str} {sem : Sem'} {x : Str} {pn pos : Pos} {e : Expr} {es : List Expr} {fs : DSt → DHp → R (List D)}
theorem de_callT (F : FnT X.prog X.w X.K X.mg X.base k x ps sem) (hct : p.ct = ctOf X.mg) (hr : Room j X.A) (hk : k ≤ j) (hg : Gl X x) (tk : L2N.Takes X p.W) (ha : DA p X (e :: es) fs) (hdl : ArgN fs (e :: es).length) (hlen : (e :: es).length = ps.length := by rfl)
    (hdb : (x == ("__debug__" : Str)) = false := by decide) (he : starEach (e :: es) X.env = (false, eval e X.env) :: starEach es X.env := by rfl) (hpl : (backTo pos (starEach es X.env)).any (·.1) = false := by rfl) : DE p X (.Call (.Name x pn) (e :: es) [] pos) (dArgs sem fs) := by
  obtain ⟨f, fd, h1, h2, h3, h4, _⟩ := F
  rw [← hct] at h1
  exact de_call h1 (hr.mono hk) hg h2 h3 h4 tk ha hlen hdb he hpl hdl
theorem de_callTH (F : FnTH X.prog X.w X.K X.mg X.base k x ps sem) (hct : p.ct = ctOf X.mg) (hr : L2H.RoomH j X.A) (hk : k ≤ j) (hc : L2H.HotC X) (hg : Gl X x) (ha : DA p X (e :: es) fs) (hdl : ArgN fs (e :: es).length) (hlen : (e :: es).length = ps.length := by rfl)
    (hdb : (x == ("__debug__" : Str)) = false := by decide) (he : starEach (e :: es) X.env = (false, eval e X.env) :: starEach es X.env := by rfl) (hpl : (backTo pos (starEach es X.env)).any (·.1) = false := by rfl) : DE p X (.Call (.Name x pn) (e :: es) [] pos) (dArgs (noX sem) fs) := by
  obtain ⟨f, fd, h1, h2, h3, h4⟩ := F
  rw [← hct] at h1
  exact de_callH h1 (hr.mono hk) hc hg h2 h3 h4 takesN0 ha hdl hlen hdb he hpl
/-- a constant of the module -/
def KCon (K : Fg) (mg : Str → Option Value) (nm : Str) (d : D) : Prop := ∃ v u, mg nm = some u ∧ RelV v u ∧ ∀ μ H, Dn K μ H v d
theorem de_glob {d : D} (h : KCon X.K X.mg x d) (hg : Gl X x) (hdb : (x == ("__debug__" : Str)) = false := by decide) : DE p X (.Name x pos) (dC d) := by
  obtain ⟨v, u, h1, h2, h3⟩ := h
  refine ⟨(pe_glob hg h1 h2 hdb).con fun σ H Q q => ?_⟩
  obtain ⟨μ, sd, h, hs, hS, hr, q⟩ := q
  exact q μ v H (.refl _ _) hr (h3 _ _)
/-- the name of a built-in type -/
theorem de_ty {T : String} (hg : Gl X x) (hm : X.mg x = none) (hv : bootBuiltins x = some (.type T)) (hn : x ≠ "__name__" := by decide) (hdb : (x == ("__debug__" : Str)) = false := by decide) : DE p X (.Name x pos) (dC (.ty T)) := by
  refine ⟨(pe_bltn hg hm hv (v := .ty T) rfl hn hdb).con fun σ H Q q => ?_⟩
  obtain ⟨μ, sd, h, hs, hS, hr, q⟩ := q
  exact q μ _ H (.refl _ _) hr (.ty _)
end
/-! ### the end of a law -/
/-- the promise of the law itself, from its meaning -/
def spLaw (K : Fg) (mg : Str → Option Value) (sem : Sem') : Sp := spD K (ctOf mg) 1 sem
theorem law_sp {K : Fg} {ct : Str → Addr} {sem : Sem'} {H : Hp} {a : Addr} {ns : List Int} (hO : Only H) (hS : SqL K H a (ns.map V.int)) (hl : ns.length ≤ 63)
    (h : ∃ h', sem [.frl (ns.map D.int)] [] = .ok (.bl true) h') : spD K ct 1 sem [.ref a] H (fun v _ => v = .bl true) fun _ _ _ => False := by
  refine ⟨rfl, [], [], [.frl (ns.map D.int)], ⟨rfl, .nil, fun i o e => by simp at e⟩, .cons (.frl (xs := ns.map V.int) ?_ ?_ ?_) .nil, ?_⟩
  · rcases hS with (h | ⟨o, h⟩) | h
    · rcases hO a with z | ⟨o, xs, z⟩ <;> rw [z] at h <;> cases h
    · exact .inl ⟨o, h⟩
    · exact .inr h
  · clear h hS hl
    induction ns with
    | nil => exact .nil
    | cons n ns ih => exact .cons (.int n) ih
  · rw [List.length_map]
    exact Nat.le_trans hl (by decide)
  · obtain ⟨h', e⟩ := h
    rw [e]
    intro μ' v H' _ _ n
    cases n; rfl
theorem cxN_no {P : Program} {w : World} (H : Hp) (s : Shared) (e : Value) (s' : Shared) : L2N.CX P w [] H s (fun _ _ _ => False) e s' → False := fun ⟨_, _, _, _, _, _, _, _, _, _, _, _, z⟩ => z
theorem walk_law {l : PySem.W.OpenLaw} {q : Program} {loose : List Str} {XP : (Str → Option Value) → Heap → Prop} {YP : World → Heap → Prop} {d : DefRec} {K : Params → PySem.W.Frag} {k : Nat} {sem : Sem'} (hn : l.most = some 63) (hdf : d.params.defaults = [])
    (hk : Room k callerA) (hY : ∀ (w : World) (h : Heap), YP w h → (K w.params).In h)
    (F : ∀ (w : World) (mg : Str → Option Value) (h : Heap), (K w.params).In h → h.Ns mainGlobals mg →
      (∃ fd fa st, Fun (K w.params) d.name d.name st fa fd ∧ mg d.name = some (.ref fa) ∧ ∀ (s : Shared) (u : Value), BindsTo s fd ⟨[u], []⟩ [("script", u)]) ∧ ∀ base : Heap, FnT l.prog w (K w.params) mg base k d.name ["script"] sem)
    (L : ∀ ns : List Int, ns.length ≤ 63 → ∃ h', sem [.frl (ns.map D.int)] [] = .ok (.bl true) h') :
    PySem.W.WalkO q loose XP YP l.row.toRowW d [] (fun f vs => PySem.call f vs) := by
  refine L2.walk_of (n := 63) (k := k) (x := "script") (CX := fun w => L2N.CX l.prog w) (sp := fun w vs H Q E => ∃ a ns, vs = [.ref a] ∧ SqL (K w.params) H a (ns.map V.int) ∧ ns.length ≤ 63 ∧ Only H ∧ Q = (fun v _ => v = .bl true) ∧ E = fun _ _ _ => False) hn (by decide) hdf hk hY (fun w mg fa h KX G hfa => ?_) (fun w H a ns hl hO hS => ⟨a, ns, rfl, hS, hl, hO, rfl, rfl⟩) fun w H s e s' => cxN_no H s e s'
  obtain ⟨⟨fd, fa', st, F1, ef, hb⟩, hF⟩ := F w mg h KX G
  rw [hfa] at ef; cases ef
  refine ⟨fd, hb, fun base kb gb => ?_⟩
  obtain ⟨f2, fd2, g1, g2, _, _, oc, od, osl, g5⟩ := hF base
  rw [hfa] at g2; cases g2
  obtain ⟨oc', od', _, _, _, _, _, _, osl', _, lk, _⟩ := F1.ex
  rw [lk] at g5; cases g5
  refine FnOk.imp g1 fun vs H Q E ⟨a, ns, h1, h2, h3, h4, h5, h6⟩ => ?_
  subst h1 h5 h6
  exact law_sp h4 h2 h3 (L ns h3)
theorem defT_mk {K : Fg} {mg : Str → Option Value} {h : Heap} (X : K.In h) (G : h.Ns mainGlobals mg) {nm : Str} {st : Stmt} {ps : List Str} {f : Addr} {oc : Value} {od an : Option Addr} {osl : Array (Option Value)} {kV doc pm cdv ct : Value}
    (a : PySem.W.nsIn K mainGlobals nm = some (some (.ref f))) (l : K.lookup f = some ⟨oc, od, .func (PySem.W.fnOf nm nm (defArgs st) (defBody st) (defScope st) .none kV doc pm an cdv ct), osl⟩) (c : PySem.W.codeIn K cdv nm = true) (k : PySem.W.keepIn K (.ref f) = true)
    (hb : ∀ (kV doc pm : Value) (an : Option Addr) (cdv ct : Value) (us : List Value), us.length = ps.length → bindArgs (PySem.W.fnOf nm nm (defArgs st) (defBody st) (defScope st) .none kV doc pm an cdv ct) ⟨us, []⟩ = pure (ps.zip us)) : DefT K mg nm st ps :=
  ⟨f, _, fun_mk l c k, PySem.W.mg_of X G a, (fun_mk l c k).binds hb⟩
end DL
namespace DL
open PySem PySem.Spec PyProof.Rows
theorem bo_len : bootBuiltins "len" = some (.builtin "len") := by decide +kernel
theorem bo_abs : bootBuiltins "abs" = some (.builtin "abs") := by decide +kernel
theorem bo_isinstance : bootBuiltins "isinstance" = some (.builtin "isinstance") := by decide +kernel
theorem bo_max : bootBuiltins "max" = some (.builtin "max") := by decide +kernel
theorem bo_min : bootBuiltins "min" = some (.builtin "min") := by decide +kernel
theorem bo_int : bootBuiltins "int" = some (.type "int") := by decide +kernel
theorem bo_bool : bootBuiltins "bool" = some (.type "bool") := by decide +kernel
theorem bo_str : bootBuiltins "str" = some (.type "str") := by decide +kernel
theorem bo_list : bootBuiltins "list" = some (.type "list") := by decide +kernel
theorem bo_tuple : bootBuiltins "tuple" = some (.type "tuple") := by decide +kernel
theorem bo_dict : bootBuiltins "dict" = some (.type "dict") := by decide +kernel
theorem bo_ValueError : bootBuiltins "ValueError" = some (.type "ValueError") := by decide +kernel
theorem roomH_units {k : Nat} {A : Around} (r : L2H.RoomH k A) : A.units + 64 < cLine := by have := r.un; omega
end DL
end

section
set_option Elab.async false
set_option linter.all false
set_option maxRecDepth 100000
set_option maxHeartbeats 1000000
/-! DL10: the text's facts, from what the head leaves. -/
namespace DL
open PySem PySem.Spec PyProof.Rows
open L2 hiding St
section
variable {K : Fg} {mg : Str → Option Value} {h : Heap} {nm : Str} {C : Addr}
theorem g_mk (X : K.In h) (G : h.Ns mainGlobals mg) (a : PySem.W.nsIn K mainGlobals nm = some (some (.ref C))) : mg nm = some (.ref (ctOf mg nm)) := by
  have e := PySem.W.mg_of X G a
  rw [ctOf_eq e]; exact e
theorem exT_mk {nmC qn : Str} {N : Addr} {bs bm sub : List Value} {sn' : List Str} {ab : Bool} {col : Option Bool} {dd : Option Addr} {k0 k1 k2 k3 k5 : Option Value} (X : K.In h) (G : h.Ns mainGlobals mg) (a : PySem.W.nsIn K mainGlobals nm = some (some (.ref C)))
    (cl : K.lookup C = some (excClassObj nmC qn C N bs bm true sn' sub ab col dd k0 k1 k2 k3 k5 "ValueError.__new__")) (rv : PySem.HandSPX.refsVE bm = true)
    (sa : PySem.W.findIn K (.ref C) "__setattr__" = some (some (.builtin "object.__setattr__"))) (ec : PySem.W.subIn K (.ref C) (.type "BaseException") = some true) (ty : PySem.W.typeIn K (.ref C) = some (.type "type")) (kc : PySem.W.keepIn K (.ref C) = true)
    (ga : PySem.W.findIn K (.ref C) "__getattribute__" = some (some (.builtin "BaseException.__getattribute__"))) (gg : PySem.W.findIn K (.ref C) "__getattr__" = some none) (hd : PySem.W.hasDictIn K C = true)
    (ha : PySem.W.findIn K (.ref C) "__class__" = some (some (.builtin "object.__class__"))) (hm : PySem.W.mroIn K C (.type "object") = some true) : ExT K mg (ctOf mg) nm (ctOf mg nm) := by
  have e := PySem.W.mg_of X G a
  have e2 := ctOf_eq e
  rw [e2]
  exact ⟨e2, e, ⟨⟨nmC, qn, N, bs, bm, sn', sub, ab, col, dd, k0, k1, k2, k3, k5, cl, rv⟩, sa, ec, ty, kc⟩, ga, gg, hd, ha, hm⟩
theorem iniT1_mk (P : Program) (w : World) {x qual : Str} {st : Stmt} {fI : Addr} {oc : Value} {od an : Option Addr} {osl : Array (Option Value)} {kV doc pm cdv ct : Value} {p1 p2 p3 p4 : Pos} (e : ExT K mg (ctOf mg) nm (ctOf mg nm)) (eC : ctOf mg nm = C)
    (iC : PySem.W.findIn K (.ref C) "__init__" = some (some (.ref fI))) (tI : PySem.W.typeIn K (.ref fI) = some (.type "function")) (l : K.lookup fI = some ⟨oc, od, .func (PySem.W.fnOf "__init__" qual (defArgs st) (defBody st) (defScope st) .none kV doc pm an cdv ct), osl⟩)
    (c : PySem.W.codeIn K cdv qual = true) (k : PySem.W.keepIn K (.ref fI) = true) (S : FnScope ["self", x] ["self", x] (defScope st)) (hB : defBody st = [.Assign [.Attribute (.Name "self" p1) x p2] (.Name x p3) p4]) (nx : PySem.W.findIn K (.ref C) x = some none)
    (hb : ∀ (kV doc pm : Value) (an : Option Addr) (cdv ct : Value) (us : List Value), us.length = 2 → bindArgs (PySem.W.fnOf "__init__" qual (defArgs st) (defBody st) (defScope st) .none kV doc pm an cdv ct) ⟨us, []⟩ = pure ((["self", x] : List Str).zip us))
    (hdx : (x == ("__debug__" : Str)) = false) (hcx : (x == ("__classdict__" : Str)) = false) (hsw : ∀ env, swapsWith (.Name x p3) (some (.Attribute (.Name "self" p1) x p2)) p4.line env = pure false) : ∀ base, IniT P w K mg base (ctOf mg nm) [x] := by
  intro base
  have F := fun_mk l c k
  rw [eC]
  have e' := e.oex
  rw [eC] at e'
  exact ⟨fI, _, iC, tI, ok_ini1 F S hB e' nx hdx hcx hsw, F.binds (ps := ["self", x]) hb⟩
theorem iniT2_mk (P : Program) (w : World) {x y qual : Str} {st : Stmt} {fI : Addr} {oc : Value} {od an : Option Addr} {osl : Array (Option Value)} {kV doc pm cdv ct : Value} {p1 p2 p3 p4 q1 q2 q3 q4 : Pos} (e : ExT K mg (ctOf mg) nm (ctOf mg nm)) (eC : ctOf mg nm = C)
    (iC : PySem.W.findIn K (.ref C) "__init__" = some (some (.ref fI))) (tI : PySem.W.typeIn K (.ref fI) = some (.type "function")) (l : K.lookup fI = some ⟨oc, od, .func (PySem.W.fnOf "__init__" qual (defArgs st) (defBody st) (defScope st) .none kV doc pm an cdv ct), osl⟩)
    (c : PySem.W.codeIn K cdv qual = true) (k : PySem.W.keepIn K (.ref fI) = true) (S : FnScope ["self", x, y] ["self", x, y] (defScope st)) (hB : defBody st = [.Assign [.Attribute (.Name "self" p1) x p2] (.Name x p3) p4, .Assign [.Attribute (.Name "self" q1) y q2] (.Name y q3) q4])
    (nx : PySem.W.findIn K (.ref C) x = some none) (ny : PySem.W.findIn K (.ref C) y = some none)
    (hb : ∀ (kV doc pm : Value) (an : Option Addr) (cdv ct : Value) (us : List Value), us.length = 3 → bindArgs (PySem.W.fnOf "__init__" qual (defArgs st) (defBody st) (defScope st) .none kV doc pm an cdv ct) ⟨us, []⟩ = pure ((["self", x, y] : List Str).zip us))
    (hdx : (x == ("__debug__" : Str)) = false) (hcx : (x == ("__classdict__" : Str)) = false) (hdy : (y == ("__debug__" : Str)) = false) (hcy : (y == ("__classdict__" : Str)) = false)
    (hsw : ∀ env, swapsWith (.Name x p3) (some (.Attribute (.Name "self" p1) x p2)) p4.line env = pure false) (hsw2 : ∀ env, swapsWith (.Name y q3) (some (.Attribute (.Name "self" q1) y q2)) q4.line env = pure false) : ∀ base, IniT P w K mg base (ctOf mg nm) [x, y] := by
  intro base
  have F := fun_mk l c k
  rw [eC]
  have e' := e.oex
  rw [eC] at e'
  exact ⟨fI, _, iC, tI, ok_ini2 F S hB e' nx ny hdx hcx hdy hcy hsw hsw2, F.binds (ps := ["self", x, y]) hb⟩
theorem xf_of (e : ExT K mg (ctOf mg) nm (ctOf mg nm)) : XfC K (ctOf mg nm) := ⟨e.ga, e.gg, e.oex.exC, e.hd⟩
theorem tab_nil {P : Str → Bool → Prop} : ∀ nm b, ([] : List (Str × Bool)).lookup nm = some b → P nm b := fun nm b h => by cases h
theorem tab_cons {P : Str → Bool → Prop} {k : Str} {b0 : Bool} {r : List (Str × Bool)} (h0 : P k b0) (h : ∀ nm b, r.lookup nm = some b → P nm b) : ∀ nm b, ((k, b0) :: r).lookup nm = some b → P nm b := fun nm b e => by
  rw [List.lookup_cons] at e
  cases q : nm == k with
  | true => rw [q] at e; cases e; rw [eq_of_beq q]; exact h0
  | false => rw [q] at e; exact h nm b e
theorem mem_nil {P : Str → Prop} : ∀ nm ∈ ([] : List Str), P nm := fun nm h => by cases h
theorem mem_cons {P : Str → Prop} {k : Str} {r : List Str} (h0 : P k) (h : ∀ nm ∈ r, P nm) : ∀ nm ∈ k :: r, P nm := fun nm e => by
  rcases List.mem_cons.mp e with e | e
  · rw [e]; exact h0
  · exact h nm e
theorem kcon_int {i : Int} {t : Tok} (X : K.In h) (G : h.Ns mainGlobals mg) (a : PySem.W.nsIn K mainGlobals nm = some (some (.int i t))) : KCon K mg nm (.int i) := ⟨.int i, _, PySem.W.mg_of X G a, ⟨t, rfl⟩, fun _ _ => .int i⟩
theorem kcon_str {x : Str} {t : Tok} (X : K.In h) (G : h.Ns mainGlobals mg) (hx : sOk x) (a : PySem.W.nsIn K mainGlobals nm = some (some (.str x t))) : KCon K mg nm (.str x) := ⟨.str x, _, PySem.W.mg_of X G a, ⟨t, rfl⟩, fun _ _ => .str x hx⟩
theorem have_it {p q : Prop} (h : p) (k : p → q) : q := k h
def XM (K : Fg) (mg : Str → Option Value) (tb : List (Str × Bool)) (hh : Str) : Prop := ∀ nm b, tb.lookup nm = some b → PySem.W.exmOne K (.ref (ctOf mg nm)) (.ref (ctOf mg hh)) = some b
def KT (K : Fg) (mg : Str → Option Value) (tb : List (Str × Bool)) (cu : Value) : Prop := ∀ nm b, tb.lookup nm = some b → ExC K (ctOf mg) nm ∧ PySem.W.kitOne K (.ref (ctOf mg nm)) cu = some b
def XF (K : Fg) (mg : Str → Option Value) (nms : List Str) (f : Str) : Prop := ∀ nm ∈ nms, XfC K (ctOf mg nm) ∧ PySem.W.findIn K (.ref (ctOf mg nm)) f = some none
theorem XM.nil (X : K.In h) {hh : Str} : XM K mg [] hh := tab_nil
theorem XM.cons {hh k : Str} {Ck Ch : Addr} {b0 : Bool} {tb : List (Str × Bool)} (r : XM K mg tb hh) (e1 : ctOf mg k = Ck) (e2 : ctOf mg hh = Ch) (h1 : PySem.W.subIn K (.ref Ch) (.type "BaseException") = some true) (h2 : PySem.W.hasDictIn K Ch = true)
    (h3 : PySem.W.typeIn K (.ref Ch) = some (.type "type")) (h4 : PySem.W.subIn K (.ref Ck) (.ref Ch) = some b0) : XM K mg ((k, b0) :: tb) hh := tab_cons (by rw [e1, e2]; exact PySem.W.exm_ref h1 h2 h3 h4) r
theorem KT.nil (X : K.In h) {cu : Value} : KT K mg [] cu := tab_nil
theorem KT.cons {k : Str} {Ck : Addr} {b0 : Bool} {tb : List (Str × Bool)} {cu : Value} (r : KT K mg tb cu) (x : ExT K mg (ctOf mg) k (ctOf mg k)) (e1 : ctOf mg k = Ck) (h4 : PySem.W.kitOne K (.ref Ck) cu = some b0) : KT K mg ((k, b0) :: tb) cu := tab_cons ⟨⟨mg, x⟩, by rw [e1]; exact h4⟩ r
theorem XF.nil (X : K.In h) {f : Str} : XF K mg [] f := mem_nil
theorem XF.cons {k f : Str} {Ck : Addr} {nms : List Str} (r : XF K mg nms f) (x : ExT K mg (ctOf mg) k (ctOf mg k)) (e1 : ctOf mg k = Ck) (h4 : PySem.W.findIn K (.ref Ck) f = some none) : XF K mg (k :: nms) f := mem_cons ⟨xf_of x, by rw [e1]; exact h4⟩ r
theorem hn_mk (X : K.In h) (a : PySem.W.specialIn K (.builtin "object.__class__") "__get__" = some (some (.builtin "getset_descriptor.__get__"))) : PySem.W.specialIn K (.builtin "object.__class__") "__get__" = some (some (.builtin "getset_descriptor.__get__")) := a
theorem ht_mk (X : K.In h) (a : PySem.W.takesIn K (.builtin "object.__class__") = some true) : PySem.W.takesIn K (.builtin "object.__class__") = some true := a
/-- the items of a written tuple -/
def KIt (K : Fg) : List V → List D → Prop := fun vs ds => ∀ μ H, DnL K μ H vs ds
theorem kcon_tup {a : Addr} {dd : Option Addr} {its : List Value} {n : Nat} {sl : Array (Option Value)} {vs : List V} {ds : List D} (X : K.In h) (G : h.Ns mainGlobals mg) (e : PySem.W.nsIn K mainGlobals nm = some (some (.ref a)))
    (l : K.lookup a = some ⟨.type "tuple", dd, .seq its.toArray n, sl⟩) (hz : its.length ≤ sizeLine) (r : Vals vs its) (hd : KIt K vs ds) : KCon K mg nm (.tup ds) := by
  refine ⟨.ref a, _, PySem.W.mg_of X G e, rfl, fun μ H => .tup (xs := vs) (.inr ⟨_, its.toArray, n, l, rfl, rfl, by simpa using hz, by simpa using r⟩) (hd μ H) ?_⟩
  rw [← (hd μ H).length, r.length]; exact hz
end
theorem lawT_mk {K : Fg} {mg : Str → Option Value} {h : Heap} (X : K.In h) (G : h.Ns mainGlobals mg) {nm : Str} {st : Stmt} {f : Addr} {oc : Value} {od an : Option Addr} {osl : Array (Option Value)} {kV doc pm cdv ct : Value}
    (a : PySem.W.nsIn K mainGlobals nm = some (some (.ref f))) (l : K.lookup f = some ⟨oc, od, .func (PySem.W.fnOf nm nm (defArgs st) (defBody st) (defScope st) .none kV doc pm an cdv ct), osl⟩) (c : PySem.W.codeIn K cdv nm = true) (k : PySem.W.keepIn K (.ref f) = true)
    (hb : ∀ (kV doc pm : Value) (an : Option Addr) (cdv ct : Value) (us : List Value), us.length = 1 → bindArgs (PySem.W.fnOf nm nm (defArgs st) (defBody st) (defScope st) .none kV doc pm an cdv ct) ⟨us, []⟩ = pure ((["script"] : List Str).zip us)) :
    ∃ fd f, Fun K nm nm st f fd ∧ mg nm = some (.ref f) ∧ ∀ (s : Shared) (u : Value), BindsTo s fd ⟨[u], []⟩ [("script", u)] :=
  ⟨_, f, fun_mk l c k, PySem.W.mg_of X G a, fun s u => .of_eq (hb kV doc pm an cdv ct [u] rfl)⟩
end DL
end

section
set_option Elab.async false
set_option linter.all false
set_option maxRecDepth 100000
/-! DLS: lemmas by which meanings are worked out. -/
namespace DL
open PySem
open Classical in
theorem gc_ok (h h' : DHp) (d : D) : gc h (.ok d h') = if Kept h h' ∧ dLt h.length d = true then .ok d (h'.take h.length) else .ok d h' := rfl
open Classical in
theorem gc_exE (h h' : DHp) (e : Exn) : gc h (.ex e h') = if Kept h h' ∧ exLt h.length e = true then .ex e (h'.take h.length) else .ex e h' := rfl
theorem gc_len {h h' : DHp} {d : D} (e : h'.length = h.length) : gc h (.ok d h') = .ok d h' := by
  rw [gc_ok]
  split
  · rw [← e, List.take_length]
  · rfl
theorem gc_same (h : DHp) (d : D) : gc h (.ok d h) = .ok d h := gc_len rfl
theorem gc_ex (h : DHp) (e : Exn) : gc h (.ex e h) = .ex e h := by
  rw [gc_exE]
  split
  · rw [List.take_length]
  · rfl
theorem gc_no (h : DHp) : gc h .no = .no := rfl
theorem kept_app {h h' js : DHp} (e : h'.length = h.length) (k : Kept h h') : Kept h (h' ++ js) := fun i o hi q => by
  rw [List.getElem?_append_left (by omega)] at q
  exact k i o hi q
theorem kept_refl (h : DHp) : Kept h h := fun i o _ q => .inl q
theorem kept_set {h : DHp} {j : Nat} {o : DO} (ho : doLt h.length o = true) : Kept h (h.set j o) := fun i x hi q => by
  by_cases e : j = i
  · subst e
    rw [List.getElem?_set_self hi] at q
    cases q; exact .inr ho
  · rw [List.getElem?_set_ne e] at q
    exact .inl q
theorem gc_app {h h' js : DHp} {d : D} (e : h'.length = h.length) (k : Kept h h') (hd : dLt h.length d = true) : gc h (.ok d (h' ++ js)) = .ok d h' := by
  rw [gc_ok, if_pos ⟨kept_app e k, hd⟩, ← e, List.take_left]
theorem gc_push {h js : DHp} {d : D} (hd : dLt h.length d = true) : gc h (.ok d (h ++ js)) = .ok d h := gc_app rfl (kept_refl h) hd
theorem mulOk_bd {i j : Int} {a b : Nat} (ha : i.natAbs < 2 ^ a) (hb : j.natAbs < 2 ^ b) (h0 : 0 < a) (h1 : 0 < b) (h : a + b ≤ 1000000) : mulOk i j := .inr (L2.wide_mul ha hb h0 h1 h)
theorem divOk_bd {j : Int} {b : Nat} (h : j ≠ 0) (hb : j.natAbs < 2 ^ b) (h0 : 0 < b) (h9 : b ≤ 9000) : divOk j := ⟨h, Nat.lt_of_lt_of_le (PySem.Flt.log2_lt_of h0 hb) h9⟩
/-! ### meanings, one step after another -/
section
variable {sd sd' : DSt} {h h1 : DHp} {f g : DSt → DHp → SR} {fa fb fc : DSt → DHp → R D} {ba bb : DSt → DHp → R Bool} {fs : DSt → DHp → R (List D)} {d e : D} {ds : List D} {i j : Nat}
def thenS (r : SR) (g : DSt → DHp → SR) : SR := match r with
  | .nx sd h => g sd h
  | r => r
def bin1 (r : R D) (fb : DSt → DHp → R D) (sd : DSt) (g : D → D → DHp → R D) : R D := r.bind fun a h1 => (fb sd h1).bind fun b h2 => g a b h2
def bin2 (a : D) (r : R D) (g : D → D → DHp → R D) : R D := r.bind fun b h2 => g a b h2
def un1 (r : R D) (g : D → DHp → R D) : R D := r.bind g
def tb1 (r : R D) : R Bool := r.bind toB
def tr1 (r : R D) : R Bool := r.bind tru
def cons1 (r : R D) (fs : DSt → DHp → R (List D)) (sd : DSt) : R (List D) := r.bind fun d h1 => (fs sd h1).bind fun ds h2 => .ok (d :: ds) h2
def cons2 (d : D) (r : R (List D)) : R (List D) := r.bind fun ds h2 => .ok (d :: ds) h2
def arg1 (r : R (List D)) (g : List D → DHp → R D) : R D := r.bind g
def and1 (r : R Bool) (g : DSt → DHp → R Bool) (sd : DSt) : R Bool := r.bind fun c h1 => if c = true then g sd h1 else .ok false h1
def or1 (r : R Bool) (g : DSt → DHp → R Bool) (sd : DSt) : R Bool := r.bind fun c h1 => if c = true then .ok true h1 else g sd h1
def not1 (r : R Bool) : R Bool := r.bind fun c h1 => .ok (!c) h1
def andV1 (r : R D) (g : DSt → DHp → R D) (sd : DSt) : R D := r.bind fun d h1 => (toB d h1).bind fun c h2 => if c = true then g sd h2 else .ok (.bl false) h2
def orV1 (r : R D) (g : DSt → DHp → R D) (sd : DSt) : R D := r.bind fun d h1 => (toB d h1).bind fun c h2 => if c = true then .ok (.bl true) h2 else g sd h2
def notV1 (r : R D) : R D := r.bind fun d h1 => (toB d h1).bind fun c h2 => .ok (.bl (!c)) h2
def ifE1 (r : R Bool) (f g : DSt → DHp → R D) (sd : DSt) : R D := r.bind fun b h1 => if b = true then f sd h1 else g sd h1
def ifS1 (r : R Bool) (f g : DSt → DHp → SR) (sd : DSt) : SR := sbind r sd fun b h1 => if b = true then f sd h1 else g sd h1
def set1 (r : R D) (i : Nat) (sd : DSt) : SR := sbind r sd fun d h' => .nx (sd.set i (some d)) h'
def drop1 (r : R D) (sd : DSt) : SR := sbind r sd fun _ h' => .nx sd h'
def ret1 (r : R D) (sd : DSt) : SR := sbind r sd fun d h' => .rt d h'
def fin1 (r : SR) : R D := match r with
  | .nx _ h' => .ok .non h'
  | .rt d h' => .ok d h'
  | .ex e _ h' => .ex e h'
  | _ => .no
def par1 (r : R (List D)) (i j : Nat) (sd : DSt) : SR := sbind r sd fun ds h1 => match ds with
  | [a, b] => .nx ((sd.set i (some a)).set j (some b)) h1
  | _ => .no
def asg1 (r : R D) (g : DTg) (sd : DSt) : SR := sbind r sd fun d h1 => match g d sd with
  | some sd1 => .nx sd1 h1
  | none => .no
def asg2 (r : Option DSt) (h : DHp) : SR := match r with
  | some sd1 => .nx sd1 h
  | none => .no
theorem ev_seq : dSeq f g sd h = thenS (f sd h) g := rfl
theorem thenS_nx : thenS (.nx sd h) g = g sd h := rfl
theorem thenS_rt : thenS (.rt d h) g = .rt d h := rfl
theorem thenS_bk : thenS (.bk sd h) g = .bk sd h := rfl
theorem thenS_ct : thenS (.ct sd h) g = .ct sd h := rfl
theorem thenS_ex {x : Exn} : thenS (.ex x sd h) g = .ex x sd h := rfl
theorem ev_skip : dSkip sd h = .nx sd h := rfl
theorem ev_brk : dBrk sd h = .bk sd h := rfl
theorem ev_cnt : dCnt sd h = .ct sd h := rfl
theorem ev_var : dVar i sd h = (match sd[i]? with | some (some d) => R.ok d h | _ => .no) := rfl
theorem ev_c : dC d sd h = .ok d h := rfl
theorem ev_un {g : D → DHp → R D} : dUn g fa sd h = un1 (fa sd h) g := rfl
theorem un1_ok {g : D → DHp → R D} : un1 (.ok d h) g = g d h := rfl
theorem ev_bin {g : D → D → DHp → R D} : dBin g fa fb sd h = bin1 (fa sd h) fb sd g := rfl
theorem bin1_ok {g : D → D → DHp → R D} : bin1 (.ok d h) fb sd g = bin2 d (fb sd h) g := rfl
theorem bin2_ok {g : D → D → DHp → R D} : bin2 d (.ok e h) g = g d e h := rfl
theorem bin1_ex {g : D → D → DHp → R D} {x : Exn} : bin1 (.ex x h) fb sd g = .ex x h := rfl
theorem bin2_ex {g : D → D → DHp → R D} {x : Exn} : bin2 d (.ex x h) g = .ex x h := rfl
theorem ev_tb : dTb fa sd h = tb1 (fa sd h) := rfl
theorem tb1_ok {b : Bool} : tb1 (.ok (.bl b) h) = .ok b h := rfl
theorem tb1_ex {x : Exn} : tb1 (.ex x h) = .ex x h := rfl
theorem ev_tru : dTru fa sd h = tr1 (fa sd h) := rfl
theorem tr1_bl {b : Bool} : tr1 (.ok (.bl b) h) = .ok b h := rfl
theorem tr1_non : tr1 (.ok .non h) = .ok false h := rfl
theorem tr1_int {n : Int} : tr1 (.ok (.int n) h) = .ok (n != 0) h := rfl
theorem tr1_str {x : Str} : tr1 (.ok (.str x) h) = .ok (x.length != 0) h := rfl
theorem tr1_tup {l : List D} : tr1 (.ok (.tup l) h) = .ok (!l.isEmpty) h := rfl
theorem tr1_frl {l : List D} : tr1 (.ok (.frl l) h) = .ok (!l.isEmpty) h := rfl
theorem tr1_lst {l : List D} (e : h[j]? = some (.lst l)) : tr1 (.ok (.obj j) h) = .ok (!l.isEmpty) h := by
  show (match h[j]? with | some (DO.lst l) => R.ok (!l.isEmpty) h | some (.dK l) => .ok (!l.isEmpty) h | _ => .no) = _
  rw [e]
theorem tr1_ex {x : Exn} : tr1 (.ex x h) = .ex x h := rfl
theorem ev_nil : dNil sd h = .ok [] h := rfl
theorem ev_cons : dCons fa fs sd h = cons1 (fa sd h) fs sd := rfl
theorem cons1_ok : cons1 (.ok d h) fs sd = cons2 d (fs sd h) := rfl
theorem cons2_ok : cons2 d (.ok ds h) = .ok (d :: ds) h := rfl
theorem cons1_ex {x : Exn} : cons1 (.ex x h) fs sd = .ex x h := rfl
theorem cons2_ex {x : Exn} : cons2 d (.ex x h) = .ex x h := rfl
theorem ev_args {g : List D → DHp → R D} : dArgs g fs sd h = arg1 (fs sd h) g := rfl
theorem arg1_ok {g : List D → DHp → R D} : arg1 (.ok ds h) g = g ds h := rfl
theorem arg1_ex {g : List D → DHp → R D} {x : Exn} : arg1 (.ex x h) g = .ex x h := rfl
theorem ev_and : dAnd ba bb sd h = and1 (ba sd h) bb sd := rfl
theorem and1_t : and1 (.ok true h) bb sd = bb sd h := rfl
theorem and1_f : and1 (.ok false h) bb sd = .ok false h := rfl
theorem and1_ex {x : Exn} : and1 (.ex x h) bb sd = .ex x h := rfl
theorem ev_or : dOr ba bb sd h = or1 (ba sd h) bb sd := rfl
theorem or1_t : or1 (.ok true h) bb sd = .ok true h := rfl
theorem or1_f : or1 (.ok false h) bb sd = bb sd h := rfl
theorem or1_ex {x : Exn} : or1 (.ex x h) bb sd = .ex x h := rfl
theorem ev_not : dNot ba sd h = not1 (ba sd h) := rfl
theorem not1_ok {b : Bool} : not1 (.ok b h) = .ok (!b) h := rfl
theorem not1_ex {x : Exn} : not1 (.ex x h) = .ex x h := rfl
theorem ev_andV : dAndV fa fb sd h = andV1 (fa sd h) fb sd := rfl
theorem andV1_t : andV1 (.ok (.bl true) h) fb sd = fb sd h := rfl
theorem andV1_f : andV1 (.ok (.bl false) h) fb sd = .ok (.bl false) h := rfl
theorem andV1_ex {x : Exn} : andV1 (.ex x h) fb sd = .ex x h := rfl
theorem ev_orV : dOrV fa fb sd h = orV1 (fa sd h) fb sd := rfl
theorem orV1_t : orV1 (.ok (.bl true) h) fb sd = .ok (.bl true) h := rfl
theorem orV1_f : orV1 (.ok (.bl false) h) fb sd = fb sd h := rfl
theorem orV1_ex {x : Exn} : orV1 (.ex x h) fb sd = .ex x h := rfl
theorem ev_notV : dNotV fa sd h = notV1 (fa sd h) := rfl
theorem notV1_ok {b : Bool} : notV1 (.ok (.bl b) h) = .ok (.bl (!b)) h := rfl
theorem notV1_ex {x : Exn} : notV1 (.ex x h) = .ex x h := rfl
theorem ev_ifE : dIfE ba fa fb sd h = ifE1 (ba sd h) fa fb sd := rfl
theorem ifE1_t : ifE1 (.ok true h) fa fb sd = fa sd h := rfl
theorem ifE1_f : ifE1 (.ok false h) fa fb sd = fb sd h := rfl
theorem ev_if : dIf ba f g sd h = ifS1 (ba sd h) f g sd := rfl
theorem ifS1_t : ifS1 (.ok true h) f g sd = f sd h := rfl
theorem ifS1_f : ifS1 (.ok false h) f g sd = g sd h := rfl
theorem ifS1_ex {x : Exn} : ifS1 (.ex x h) f g sd = .ex x sd h := rfl
theorem ev_set : dSet i fa sd h = set1 (fa sd h) i sd := rfl
theorem set1_ok : set1 (.ok d h) i sd = .nx (sd.set i (some d)) h := rfl
theorem set1_ex {x : Exn} : set1 (.ex x h) i sd = .ex x sd h := rfl
theorem ev_drop : dDrop fa sd h = drop1 (fa sd h) sd := rfl
theorem drop1_ok : drop1 (.ok d h) sd = .nx sd h := rfl
theorem drop1_ex {x : Exn} : drop1 (.ex x h) sd = .ex x sd h := rfl
theorem ev_ret : dRet fa sd h = ret1 (fa sd h) sd := rfl
theorem ret1_ok : ret1 (.ok d h) sd = .rt d h := rfl
theorem ret1_ex {x : Exn} : ret1 (.ex x h) sd = .ex x sd h := rfl
theorem ev_retN : dRetN sd h = .rt .non h := rfl
theorem ev_par : dPar i j fs sd h = par1 (fs sd h) i j sd := rfl
theorem par1_ok : par1 (.ok [d, e] h) i j sd = .nx ((sd.set i (some d)).set j (some e)) h := rfl
theorem ev_asg {g : DTg} : dAsg g fa sd h = asg1 (fa sd h) g sd := rfl
theorem asg1_ok {g : DTg} : asg1 (.ok d h) g sd = asg2 (g d sd) h := rfl
theorem asg1_ex {g : DTg} {x : Exn} : asg1 (.ex x h) g sd = .ex x sd h := rfl
theorem asg2_ok : asg2 (some sd) h = .nx sd h := rfl
theorem ev_tgN : tgN i d sd = some (sd.set i (some d)) := rfl
theorem ev_tgT {n : Nat} {gs : DTgs} {l : List D} : tgT n gs (.tup l) sd = if l.length = n then gs l sd else none := rfl
def tgC (r : Option DSt) (gs : DTgs) (l : List D) : Option DSt := match r with
  | some sd1 => gs l sd1
  | none => none
theorem ev_tgCons {g : DTg} {gs : DTgs} {l : List D} : tgCons g gs (d :: l) sd = tgC (g d sd) gs l := rfl
theorem tgC_ok {gs : DTgs} {l : List D} : tgC (some sd) gs l = gs l sd := rfl
theorem ev_tgNil : tgNil [] sd = some sd := rfl
theorem ev_semOf {n : Nat} : semOf n f ds h = gc h (fin1 (f (ds.map some ++ List.replicate (n - ds.length) none) h)) := rfl
theorem fin1_nx : fin1 (.nx sd h) = .ok .non h := rfl
theorem fin1_rt : fin1 (.rt d h) = .ok d h := rfl
theorem fin1_ex {x : Exn} : fin1 (.ex x sd h) = .ex x h := rfl
/-! operations -/
theorem gAdd_int {a b : Int} : gAdd (.int a) (.int b) h = .ok (.int (a + b)) h := rfl
theorem gSub_int {a b : Int} : gSub (.int a) (.int b) h = .ok (.int (a - b)) h := rfl
theorem gMul_int {a b : Int} (m : mulOk a b) : gMul (.int a) (.int b) h = .ok (.int (a * b)) h := by show (if mulOk a b then _ else _) = _; rw [if_pos m]
theorem gFdiv_int {a b : Int} (m : divOk b) : gFdiv (.int a) (.int b) h = .ok (.int (a.fdiv b)) h := by show (if divOk b then _ else _) = _; rw [if_pos m]
theorem gMod_int {a b : Int} (m : b ≠ 0) : gMod (.int a) (.int b) h = .ok (.int (a.fmod b)) h := by show (if b ≠ 0 then _ else _) = _; rw [if_pos m]
theorem gPow_int {a b : Int} (m : powOk a b) : gPow (.int a) (.int b) h = .ok (.int (a ^ b.toNat)) h := by show (if powOk a b then _ else _) = _; rw [if_pos m]
theorem gNeg_int {a : Int} : gNeg (.int a) h = .ok (.int (-a)) h := rfl
theorem gLt_int {a b : Int} : gLt (.int a) (.int b) h = .ok (.bl (decide (a < b))) h := rfl
theorem gLe_int {a b : Int} : gLe (.int a) (.int b) h = .ok (.bl (decide (a ≤ b))) h := rfl
theorem gGt_int {a b : Int} : gGt (.int a) (.int b) h = .ok (.bl (decide (b < a))) h := rfl
theorem gGe_int {a b : Int} : gGe (.int a) (.int b) h = .ok (.bl (decide (b ≤ a))) h := rfl
theorem gTup_ok (m : ds.length ≤ sizeLine) : gTup ds h = .ok (.tup ds) h := if_pos m
theorem gLst_ok (m : ds.length ≤ sizeLine) : gLst ds h = .ok (.obj h.length) (h ++ [.lst ds]) := if_pos m
theorem small_line {n : Nat} (m : n ≤ 1000) : n ≤ sizeLine := Nat.le_trans m (by decide)
theorem gEq_some {k : Bool} (m : eqD h d e = some k) : gEq d e h = .ok (.bl k) h := by unfold gEq; rw [m]
theorem gNe_some {k : Bool} (m : eqD h d e = some k) : gNe d e h = .ok (.bl (!k)) h := by unfold gNe; rw [m]
theorem eqD_int {a b : Int} : eqD h (.int a) (.int b) = some (decide (a = b)) := by
  unfold eqD toPy
  simp only [toPyA]
  rw [if_pos ⟨by simp [PySem.PyData.depth], by simp [PySem.PyData.depth]⟩]
  simp only [PySem.PyData.eqv]
  congr 1
theorem gEq_int {a b : Int} : gEq (.int a) (.int b) h = .ok (.bl (decide (a = b))) h := gEq_some eqD_int
theorem gNe_int {a b : Int} : gNe (.int a) (.int b) h = .ok (.bl (!decide (a = b))) h := gNe_some eqD_int
theorem gIs_bb {a b : Bool} : gIs (.bl a) (.bl b) h = .ok (.bl (decide (a = b))) h := rfl
theorem gIsN_bb {a b : Bool} : gIsN (.bl a) (.bl b) h = .ok (.bl (!decide (a = b))) h := rfl
theorem gIs_non : gIs .non .non h = .ok (.bl true) h := rfl
theorem gIs_tn {l : List D} : gIs (.tup l) .non h = .ok (.bl false) h := rfl
theorem gIs_in {a : Int} : gIs (.int a) .non h = .ok (.bl false) h := rfl
theorem gIs_on : gIs (.obj j) .non h = .ok (.bl false) h := rfl
theorem gIs_sn {x : Str} : gIs (.str x) .non h = .ok (.bl false) h := rfl
theorem gIsN_non : gIsN .non .non h = .ok (.bl false) h := rfl
theorem gIsN_tn {l : List D} : gIsN (.tup l) .non h = .ok (.bl true) h := rfl
theorem gIsN_in {a : Int} : gIsN (.int a) .non h = .ok (.bl true) h := rfl
theorem gIsN_on : gIsN (.obj j) .non h = .ok (.bl true) h := rfl
theorem gIsN_sn {x : Str} : gIsN (.str x) .non h = .ok (.bl true) h := rfl
theorem gIx_tup0 {a : D} {l : List D} : gIx (.tup (a :: l)) (.int 0) h = .ok a h := by
  show (match L2.atI (a :: l) 0 with | some d => R.ok d h | none => .no) = _
  have : L2.atI (a :: l) 0 = some a := L2.atI_nat (j := 0) (by simp)
  rw [this]
theorem gIx_tup1 {a b : D} {l : List D} : gIx (.tup (a :: b :: l)) (.int 1) h = .ok b h := by
  show (match L2.atI (a :: b :: l) 1 with | some d => R.ok d h | none => .no) = _
  have : L2.atI (a :: b :: l) 1 = some b := L2.atI_nat (j := 1) (by simp)
  rw [this]
theorem gIx_tup2 {a b c : D} {l : List D} : gIx (.tup (a :: b :: c :: l)) (.int 2) h = .ok c h := by
  show (match L2.atI (a :: b :: c :: l) 2 with | some d => R.ok d h | none => .no) = _
  have : L2.atI (a :: b :: c :: l) 2 = some c := L2.atI_nat (j := 2) (by simp)
  rw [this]
theorem gIx_tup3 {a b c k : D} {l : List D} : gIx (.tup (a :: b :: c :: k :: l)) (.int 3) h = .ok k h := by
  show (match L2.atI (a :: b :: c :: k :: l) 3 with | some d => R.ok d h | none => .no) = _
  have : L2.atI (a :: b :: c :: k :: l) 3 = some k := L2.atI_nat (j := 3) (by simp)
  rw [this]
theorem gIx_tup4 {a b c k m : D} {l : List D} : gIx (.tup (a :: b :: c :: k :: m :: l)) (.int 4) h = .ok m h := by
  show (match L2.atI (a :: b :: c :: k :: m :: l) 4 with | some d => R.ok d h | none => .no) = _
  have : L2.atI (a :: b :: c :: k :: m :: l) 4 = some m := L2.atI_nat (j := 4) (by simp)
  rw [this]
theorem gIx_tup {l : List D} {n : Int} (m : L2.atI l n = some d) : gIx (.tup l) (.int n) h = .ok d h := by
  show (match L2.atI l n with | some d => R.ok d h | none => .no) = _
  rw [m]
theorem gIx_frl {l : List D} {n : Int} (m : L2.atI l n = some d) : gIx (.frl l) (.int n) h = .ok d h := by
  show (match L2.atI l n with | some d => R.ok d h | none => .no) = _
  rw [m]
theorem gIx_lst {l : List D} {n : Int} (q : h[j]? = some (.lst l)) (m : L2.atI l n = some d) : gIx (.obj j) (.int n) h = .ok d h := by
  show (match h[j]? with | some (DO.lst l) => (match L2.atI l n with | some d => R.ok d h | none => .no) | _ => .no) = _
  rw [q]
  show (match L2.atI l n with | some d => R.ok d h | none => .no) = _
  rw [m]
theorem atI_0 {α : Type} {a : α} {l : List α} : L2.atI (a :: l) 0 = some a := L2.atI_nat (j := 0) (by simp)
theorem atI_1 {α : Type} {a b : α} {l : List α} : L2.atI (a :: b :: l) 1 = some b := L2.atI_nat (j := 1) (by simp)
theorem atI_2 {α : Type} {a b c : α} {l : List α} : L2.atI (a :: b :: c :: l) 2 = some c := L2.atI_nat (j := 2) (by simp)
theorem gLen_tup {l : List D} : gLen [.tup l] h = .ok (.int l.length) h := rfl
theorem gLen_frl {l : List D} : gLen [.frl l] h = .ok (.int l.length) h := rfl
theorem gLen_str {z : Str} : gLen [.str z] h = .ok (.int z.length) h := rfl
theorem gLen_lst {l : List D} (e : h[j]? = some (.lst l)) : gLen [.obj j] h = .ok (.int l.length) h := by
  show (match h[j]? with | some (DO.lst l) => R.ok (D.int l.length) h | _ => .no) = _
  rw [e]
theorem gInt_int {a : Int} : gInt [.int a] h = .ok (.int a) h := rfl
theorem gInt_bl {b : Bool} : gInt [.bl b] h = .ok (.int (if b then 1 else 0)) h := rfl
theorem gAbs_int {a : Int} : gAbs [.int a] h = .ok (.int (if a < 0 then -a else a)) h := rfl
theorem gMax_int {a b : Int} : gMax2 [.int a, .int b] h = .ok (.int (if b > a then b else a)) h := rfl
theorem gMin_int {a b : Int} : gMin2 [.int a, .int b] h = .ok (.int (if b < a then b else a)) h := rfl
theorem gGcd_int {a b : Int} : gGcd [.int a, .int b] h = .ok (.int ((Nat.gcd a.natAbs b.natAbs : Nat) : Int)) h := rfl
theorem gLcm_int {a b : Int} (m : lcmOk a b) : gLcm [.int a, .int b] h = .ok (.int ((Nat.lcm a.natAbs b.natAbs : Nat) : Int)) h := by show (if lcmOk a b then _ else _) = _; rw [if_pos m]
theorem gList_tup {l : List D} : gList [.tup l] h = .ok (.obj h.length) (h ++ [.lst l]) := rfl
theorem gList_lst {l : List D} (e : h[j]? = some (.lst l)) : gList [.obj j] h = .ok (.obj h.length) (h ++ [.lst l]) := by
  show (match h[j]? with | some (DO.lst l) => R.ok (D.obj h.length) (h ++ [DO.lst l]) | _ => .no) = _
  rw [e]
theorem gTuple_tup {l : List D} : gTuple [.tup l] h = .ok (.tup l) h := rfl
theorem gTuple_lst {l : List D} (e : h[j]? = some (.lst l)) : gTuple [.obj j] h = .ok (.tup l) h := by
  show (match h[j]? with | some (DO.lst l) => R.ok (D.tup l) h | _ => .no) = _
  rw [e]
theorem gIsi_k {T : String} {k : Kd} {b : Bool} (q : kd d h = some k) (m : isK T k = some b) : gIsi [d, .ty T] h = .ok (.bl b) h := by
  show (match kd d h with | some k => (match isK T k with | some b => R.ok (D.bl b) h | none => .no) | none => .no) = _
  rw [q]
  show (match isK T k with | some b => R.ok (D.bl b) h | none => .no) = _
  rw [m]
/-! loops -/
noncomputable def for1 (r : R Src) (sd : DSt) (tg : DTg) (fb : DSt → DHp → SR) : SR := sbind r sd fun s h1 => dForL s.chk tg fb s.ds sd h1
noncomputable def forB (r : SR) (chk : DHp → Prop) (tg : DTg) (fb : DSt → DHp → SR) (ds : List D) : SR := match r with
  | .nx sd2 h2 => dForL chk tg fb ds sd2 h2
  | .ct sd2 h2 => dForL chk tg fb ds sd2 h2
  | .bk sd2 h2 => .nx sd2 h2
  | r => r
noncomputable def forT (r : Option DSt) (h : DHp) (chk : DHp → Prop) (tg : DTg) (fb : DSt → DHp → SR) (ds : List D) : SR := match r with
  | some sd1 => forB (fb sd1 h) chk tg fb ds
  | none => .no
theorem ev_for {src : DSt → DHp → R Src} {tg : DTg} {fb : DSt → DHp → SR} : dFor src tg fb sd h = for1 (src sd h) sd tg fb := rfl
theorem for1_ok {s : Src} {tg : DTg} {fb : DSt → DHp → SR} : for1 (.ok s h) sd tg fb = dForL s.chk tg fb s.ds sd h := rfl
theorem for1_ex {x : Exn} {tg : DTg} {fb : DSt → DHp → SR} : for1 (.ex x h) sd tg fb = .ex x sd h := rfl
theorem dForL_nil {chk : DHp → Prop} {tg : DTg} {fb : DSt → DHp → SR} (c : chk h) : dForL chk tg fb [] sd h = .nx sd h := by
  unfold dForL; rw [if_pos c]
theorem dForL_cons {chk : DHp → Prop} {tg : DTg} {fb : DSt → DHp → SR} (c : chk h) : dForL chk tg fb (d :: ds) sd h = forT (tg d sd) h chk tg fb ds := by
  rw [dForL.eq_def]
  simp only
  rw [if_pos c]
  rfl
theorem forT_ok {chk : DHp → Prop} {tg : DTg} {fb : DSt → DHp → SR} : forT (some sd) h chk tg fb ds = forB (fb sd h) chk tg fb ds := rfl
theorem forB_nx {chk : DHp → Prop} {tg : DTg} {fb : DSt → DHp → SR} : forB (.nx sd h) chk tg fb ds = dForL chk tg fb ds sd h := rfl
theorem forB_ct {chk : DHp → Prop} {tg : DTg} {fb : DSt → DHp → SR} : forB (.ct sd h) chk tg fb ds = dForL chk tg fb ds sd h := rfl
theorem forB_bk {chk : DHp → Prop} {tg : DTg} {fb : DSt → DHp → SR} : forB (.bk sd h) chk tg fb ds = .nx sd h := rfl
theorem forB_rt {chk : DHp → Prop} {tg : DTg} {fb : DSt → DHp → SR} : forB (.rt d h) chk tg fb ds = .rt d h := rfl
theorem forB_ex {x : Exn} {chk : DHp → Prop} {tg : DTg} {fb : DSt → DHp → SR} : forB (.ex x sd h) chk tg fb ds = .ex x sd h := rfl
def it1 (r : R D) : R Src := r.bind gIt
theorem ev_it : dIt fa sd h = it1 (fa sd h) := rfl
theorem it1_tup {l : List D} : it1 (.ok (.tup l) h) = .ok ⟨l, fun _ => True⟩ h := rfl
theorem it1_frl {l : List D} : it1 (.ok (.frl l) h) = .ok ⟨l, fun _ => True⟩ h := rfl
theorem it1_str {z : Str} : it1 (.ok (.str z) h) = .ok ⟨z.cps.toList.map fun c => D.str ⟨#[c]⟩, fun _ => True⟩ h := rfl
theorem it1_lst {l : List D} (e : h[j]? = some (.lst l)) : it1 (.ok (.obj j) h) = .ok ⟨l, fun h => h[j]? = some (DO.lst l)⟩ h := by
  show (match h[j]? with | some (DO.lst l) => R.ok (⟨l, fun h => h[j]? = some (DO.lst l)⟩ : Src) h | _ => .no) = _
  rw [e]
def itA1 (r : R (List D)) (g : List D → DHp → R Src) : R Src := r.bind g
theorem ev_itA {g : List D → DHp → R Src} : dItA g fs sd h = itA1 (fs sd h) g := rfl
theorem itA1_ok {g : List D → DHp → R Src} : itA1 (.ok ds h) g = g ds h := rfl
theorem gRng1_ok {n : Int} (m : -(2 ^ 62) ≤ n ∧ n < 2 ^ 62) : gRng1 [.int n] h = .ok ⟨(List.range n.toNat).map fun i => D.int (i : Nat), fun _ => True⟩ h := by show (if _ then _ else _) = _; rw [if_pos m]
/-! slices, stores, raising, chains -/
def sl1 (r : R D) (g : D → Option Int → Option Int → DHp → R D) (fl fu : DSt → DHp → R (Option Int)) (sd : DSt) : R D := r.bind fun d h1 => (fl sd h1).bind fun l h2 => (fu sd h2).bind fun u h3 => g d l u h3
def sl2 (d : D) (r : R (Option Int)) (g : D → Option Int → Option Int → DHp → R D) (fu : DSt → DHp → R (Option Int)) (sd : DSt) : R D := r.bind fun l h2 => (fu sd h2).bind fun u h3 => g d l u h3
def sl3 (d : D) (l : Option Int) (r : R (Option Int)) (g : D → Option Int → Option Int → DHp → R D) : R D := r.bind fun u h3 => g d l u h3
def part1 (r : R D) : R (Option Int) := r.bind toI
variable {fl fu : DSt → DHp → R (Option Int)} {gs : D → Option Int → Option Int → DHp → R D} {lo hi : Option Int}
theorem ev_sl : dSl gs fa fl fu sd h = sl1 (fa sd h) gs fl fu sd := rfl
theorem sl1_ok : sl1 (.ok d h) gs fl fu sd = sl2 d (fl sd h) gs fu sd := rfl
theorem sl2_ok : sl2 d (.ok lo h) gs fu sd = sl3 d lo (fu sd h) gs := rfl
theorem sl3_ok : sl3 d lo (.ok hi h) gs = gs d lo hi h := rfl
theorem ev_noPart : dNoPart sd h = .ok none h := rfl
theorem ev_part : dPart fa sd h = part1 (fa sd h) := rfl
theorem part1_ok {n : Int} : part1 (.ok (.int n) h) = .ok (some n) h := rfl
theorem gSlc_tup {l : List D} : gSlc (.tup l) lo hi h = .ok (.tup (cutD l lo hi)) h := rfl
theorem gSlc_str {z : Str} : gSlc (.str z) lo hi h = .ok (.str (L2.cutS z lo hi)) h := rfl
theorem gSlc_lst {l : List D} (e : h[j]? = some (.lst l)) : gSlc (.obj j) lo hi h = .ok (.obj h.length) (h ++ [.lst (cutD l lo hi)]) := by
  show (match h[j]? with | some (DO.lst l) => R.ok (D.obj h.length) (h ++ [DO.lst (cutD l lo hi)]) | _ => .no) = _
  rw [e]
def sto1 (r : R D) (fo fi : DSt → DHp → R D) (sd : DSt) : SR := sbind (r.bind fun v h1 => (fo sd h1).bind fun o h2 => (fi sd h2).bind fun i h3 => match gSet o i v h3 with
  | some h4 => R.ok D.non h4
  | none => R.no) sd fun _ h4 => .nx sd h4
def sto2 (v : D) (r : R D) (fi : DSt → DHp → R D) (sd : DSt) : SR := sbind (r.bind fun o h2 => (fi sd h2).bind fun i h3 => match gSet o i v h3 with
  | some h4 => R.ok D.non h4
  | none => R.no) sd fun _ h4 => .nx sd h4
def sto3 (v o : D) (r : R D) (sd : DSt) : SR := sbind (r.bind fun i h3 => match gSet o i v h3 with
  | some h4 => R.ok D.non h4
  | none => R.no) sd fun _ h4 => .nx sd h4
theorem ev_sto {fv fo fi : DSt → DHp → R D} : dSto fv fo fi sd h = sto1 (fv sd h) fo fi sd := rfl
theorem sto1_ok {fo fi : DSt → DHp → R D} : sto1 (.ok d h) fo fi sd = sto2 d (fo sd h) fi sd := rfl
theorem sto2_ok {fi : DSt → DHp → R D} {v : D} : sto2 v (.ok d h) fi sd = sto3 v d (fi sd h) sd := rfl
theorem sto3_ok {v o : D} (m : gSet o d v h = some h1) : sto3 v o (.ok d h) sd = .nx sd h1 := by
  show sbind (match gSet o d v h with | some h4 => R.ok D.non h4 | none => R.no) sd _ = _
  rw [m]; rfl
theorem gSet_lst {v : D} {l : List D} {n : Int} {k : Nat} (q : h[j]? = some (.lst l)) (m : L2.ixN l.length n = some k) : gSet (.obj j) (.int n) v h = some (h.set j (.lst (l.set k v))) := by
  show (match h[j]? with | some (DO.lst l) => (match L2.ixN l.length n with | some j' => some (h.set j (DO.lst (l.set j' v))) | none => none) | _ => none) = _
  rw [q]
  show (match L2.ixN l.length n with | some j' => some (h.set j (DO.lst (l.set j' v))) | none => none) = _
  rw [m]
def raise1 (r : R (List D)) (nm : Str) (fs : List Str) (sd : DSt) : SR := sbind r sd fun ds h1 => if ds.length = fs.length then .ex ⟨nm, some (fs.zip ds).reverse⟩ sd h1 else .no
theorem ev_raise {nm : Str} {ns : List Str} : dRaise nm ns fs sd h = raise1 (fs sd h) nm ns sd := rfl
theorem raise1_ok {nm : Str} {ns : List Str} (m : ds.length = ns.length) : raise1 (.ok ds h) nm ns sd = .ex ⟨nm, some (ns.zip ds).reverse⟩ sd h := if_pos m
def ch1 (r : R D) (g g' : D → D → DHp → R D) (fb fc : DSt → DHp → R D) (sd : DSt) : R D := r.bind fun a h1 => (fb sd h1).bind fun b h2 => (g a b h2).bind fun z h3 => (toB z h3).bind fun k h4 => if k = true then (fc sd h4).bind fun c h5 => g' b c h5 else .ok (.bl false) h4
def ch2 (a : D) (r : R D) (g g' : D → D → DHp → R D) (fc : DSt → DHp → R D) (sd : DSt) : R D := r.bind fun b h2 => (g a b h2).bind fun z h3 => (toB z h3).bind fun k h4 => if k = true then (fc sd h4).bind fun c h5 => g' b c h5 else .ok (.bl false) h4
def ch3 (b : D) (r : R D) (g' : D → D → DHp → R D) (fc : DSt → DHp → R D) (sd : DSt) : R D := r.bind fun z h3 => (toB z h3).bind fun k h4 => if k = true then (fc sd h4).bind fun c h5 => g' b c h5 else .ok (.bl false) h4
variable {g1 g2 : D → D → DHp → R D}
theorem ev_chain : dChain g1 g2 fa fb fc sd h = ch1 (fa sd h) g1 g2 fb fc sd := rfl
theorem ch1_ok : ch1 (.ok d h) g1 g2 fb fc sd = ch2 d (fb sd h) g1 g2 fc sd := rfl
theorem ch2_ok : ch2 d (.ok e h) g1 g2 fc sd = ch3 e (g1 d e h) g2 fc sd := rfl
theorem ch3_t : ch3 e (.ok (.bl true) h) g2 fc sd = bin2 e (fc sd h) g2 := rfl
theorem ch3_f : ch3 e (.ok (.bl false) h) g2 fc sd = .ok (.bl false) h := rfl
end
theorem kd_int {i : Int} {h : DHp} : kd (.int i) h = some .int := rfl
theorem kd_bl {b : Bool} {h : DHp} : kd (.bl b) h = some .bl := rfl
theorem kd_str {x : Str} {h : DHp} : kd (.str x) h = some .str := rfl
theorem kd_non {h : DHp} : kd .non h = some .non := rfl
theorem kd_tup {l : List D} {h : DHp} : kd (.tup l) h = some .tup := rfl
theorem kd_lst {j : Nat} {l : List D} {h : DHp} (e : h[j]? = some (.lst l)) : kd (.obj j) h = some .lst := by
  show (match h[j]? with | some (.lst _) => some Kd.lst | some (.dK _) => some .dct | some (.dT _) => some .dct | none => none) = _
  rw [e]
theorem isi_int_int {h : DHp} {i : Int} : gIsi [(.int i), .ty "int"] h = .ok (.bl true) h := gIsi_k (k := .int) rfl (by decide +kernel)
theorem isi_int_bool {h : DHp} {i : Int} : gIsi [(.int i), .ty "bool"] h = .ok (.bl false) h := gIsi_k (k := .int) rfl (by decide +kernel)
theorem isi_int_str {h : DHp} {i : Int} : gIsi [(.int i), .ty "str"] h = .ok (.bl false) h := gIsi_k (k := .int) rfl (by decide +kernel)
theorem isi_int_tuple {h : DHp} {i : Int} : gIsi [(.int i), .ty "tuple"] h = .ok (.bl false) h := gIsi_k (k := .int) rfl (by decide +kernel)
theorem isi_int_list {h : DHp} {i : Int} : gIsi [(.int i), .ty "list"] h = .ok (.bl false) h := gIsi_k (k := .int) rfl (by decide +kernel)
theorem isi_int_dict {h : DHp} {i : Int} : gIsi [(.int i), .ty "dict"] h = .ok (.bl false) h := gIsi_k (k := .int) rfl (by decide +kernel)
theorem isi_bl_int {h : DHp} {b : Bool} : gIsi [(.bl b), .ty "int"] h = .ok (.bl true) h := gIsi_k (k := .bl) rfl (by decide +kernel)
theorem isi_bl_bool {h : DHp} {b : Bool} : gIsi [(.bl b), .ty "bool"] h = .ok (.bl true) h := gIsi_k (k := .bl) rfl (by decide +kernel)
theorem isi_bl_str {h : DHp} {b : Bool} : gIsi [(.bl b), .ty "str"] h = .ok (.bl false) h := gIsi_k (k := .bl) rfl (by decide +kernel)
theorem isi_bl_tuple {h : DHp} {b : Bool} : gIsi [(.bl b), .ty "tuple"] h = .ok (.bl false) h := gIsi_k (k := .bl) rfl (by decide +kernel)
theorem isi_bl_list {h : DHp} {b : Bool} : gIsi [(.bl b), .ty "list"] h = .ok (.bl false) h := gIsi_k (k := .bl) rfl (by decide +kernel)
theorem isi_bl_dict {h : DHp} {b : Bool} : gIsi [(.bl b), .ty "dict"] h = .ok (.bl false) h := gIsi_k (k := .bl) rfl (by decide +kernel)
theorem isi_str_int {h : DHp} {x : Str} : gIsi [(.str x), .ty "int"] h = .ok (.bl false) h := gIsi_k (k := .str) rfl (by decide +kernel)
theorem isi_str_bool {h : DHp} {x : Str} : gIsi [(.str x), .ty "bool"] h = .ok (.bl false) h := gIsi_k (k := .str) rfl (by decide +kernel)
theorem isi_str_str {h : DHp} {x : Str} : gIsi [(.str x), .ty "str"] h = .ok (.bl true) h := gIsi_k (k := .str) rfl (by decide +kernel)
theorem isi_str_tuple {h : DHp} {x : Str} : gIsi [(.str x), .ty "tuple"] h = .ok (.bl false) h := gIsi_k (k := .str) rfl (by decide +kernel)
theorem isi_str_list {h : DHp} {x : Str} : gIsi [(.str x), .ty "list"] h = .ok (.bl false) h := gIsi_k (k := .str) rfl (by decide +kernel)
theorem isi_str_dict {h : DHp} {x : Str} : gIsi [(.str x), .ty "dict"] h = .ok (.bl false) h := gIsi_k (k := .str) rfl (by decide +kernel)
theorem isi_non_int {h : DHp}  : gIsi [.non, .ty "int"] h = .ok (.bl false) h := gIsi_k (k := .non) rfl (by decide +kernel)
theorem isi_non_bool {h : DHp}  : gIsi [.non, .ty "bool"] h = .ok (.bl false) h := gIsi_k (k := .non) rfl (by decide +kernel)
theorem isi_non_str {h : DHp}  : gIsi [.non, .ty "str"] h = .ok (.bl false) h := gIsi_k (k := .non) rfl (by decide +kernel)
theorem isi_non_tuple {h : DHp}  : gIsi [.non, .ty "tuple"] h = .ok (.bl false) h := gIsi_k (k := .non) rfl (by decide +kernel)
theorem isi_non_list {h : DHp}  : gIsi [.non, .ty "list"] h = .ok (.bl false) h := gIsi_k (k := .non) rfl (by decide +kernel)
theorem isi_non_dict {h : DHp}  : gIsi [.non, .ty "dict"] h = .ok (.bl false) h := gIsi_k (k := .non) rfl (by decide +kernel)
theorem isi_tup_int {h : DHp} {l : List D} : gIsi [(.tup l), .ty "int"] h = .ok (.bl false) h := gIsi_k (k := .tup) rfl (by decide +kernel)
theorem isi_tup_bool {h : DHp} {l : List D} : gIsi [(.tup l), .ty "bool"] h = .ok (.bl false) h := gIsi_k (k := .tup) rfl (by decide +kernel)
theorem isi_tup_str {h : DHp} {l : List D} : gIsi [(.tup l), .ty "str"] h = .ok (.bl false) h := gIsi_k (k := .tup) rfl (by decide +kernel)
theorem isi_tup_tuple {h : DHp} {l : List D} : gIsi [(.tup l), .ty "tuple"] h = .ok (.bl true) h := gIsi_k (k := .tup) rfl (by decide +kernel)
theorem isi_tup_list {h : DHp} {l : List D} : gIsi [(.tup l), .ty "list"] h = .ok (.bl false) h := gIsi_k (k := .tup) rfl (by decide +kernel)
theorem isi_tup_dict {h : DHp} {l : List D} : gIsi [(.tup l), .ty "dict"] h = .ok (.bl false) h := gIsi_k (k := .tup) rfl (by decide +kernel)
theorem isi_frl_int {h : DHp} {l : List D} : gIsi [(.frl l), .ty "int"] h = .ok (.bl false) h := gIsi_k (k := .lst) rfl (by decide +kernel)
theorem isi_frl_bool {h : DHp} {l : List D} : gIsi [(.frl l), .ty "bool"] h = .ok (.bl false) h := gIsi_k (k := .lst) rfl (by decide +kernel)
theorem isi_frl_str {h : DHp} {l : List D} : gIsi [(.frl l), .ty "str"] h = .ok (.bl false) h := gIsi_k (k := .lst) rfl (by decide +kernel)
theorem isi_frl_tuple {h : DHp} {l : List D} : gIsi [(.frl l), .ty "tuple"] h = .ok (.bl false) h := gIsi_k (k := .lst) rfl (by decide +kernel)
theorem isi_frl_list {h : DHp} {l : List D} : gIsi [(.frl l), .ty "list"] h = .ok (.bl true) h := gIsi_k (k := .lst) rfl (by decide +kernel)
theorem isi_frl_dict {h : DHp} {l : List D} : gIsi [(.frl l), .ty "dict"] h = .ok (.bl false) h := gIsi_k (k := .lst) rfl (by decide +kernel)
theorem isi_lst_int {h : DHp} {j : Nat} {l : List D} (e : h[j]? = some (.lst l)) : gIsi [.obj j, .ty "int"] h = .ok (.bl false) h := gIsi_k (k := .lst) (kd_lst e) (by decide +kernel)
theorem isi_lst_bool {h : DHp} {j : Nat} {l : List D} (e : h[j]? = some (.lst l)) : gIsi [.obj j, .ty "bool"] h = .ok (.bl false) h := gIsi_k (k := .lst) (kd_lst e) (by decide +kernel)
theorem isi_lst_str {h : DHp} {j : Nat} {l : List D} (e : h[j]? = some (.lst l)) : gIsi [.obj j, .ty "str"] h = .ok (.bl false) h := gIsi_k (k := .lst) (kd_lst e) (by decide +kernel)
theorem isi_lst_tuple {h : DHp} {j : Nat} {l : List D} (e : h[j]? = some (.lst l)) : gIsi [.obj j, .ty "tuple"] h = .ok (.bl false) h := gIsi_k (k := .lst) (kd_lst e) (by decide +kernel)
theorem isi_lst_list {h : DHp} {j : Nat} {l : List D} (e : h[j]? = some (.lst l)) : gIsi [.obj j, .ty "list"] h = .ok (.bl true) h := gIsi_k (k := .lst) (kd_lst e) (by decide +kernel)
theorem isi_lst_dict {h : DHp} {j : Nat} {l : List D} (e : h[j]? = some (.lst l)) : gIsi [.obj j, .ty "dict"] h = .ok (.bl false) h := gIsi_k (k := .lst) (kd_lst e) (by decide +kernel)
theorem gTup_0 {h : DHp}  : gTup [] h = .ok (.tup []) h := gTup_ok (by show 0 ≤ sizeLine; decide)
theorem gLst_0 {h : DHp}  : gLst [] h = .ok (.obj h.length) (h ++ [.lst []]) := gLst_ok (by show 0 ≤ sizeLine; decide)
theorem gTup_1 {h : DHp} {a : D} : gTup [a] h = .ok (.tup [a]) h := gTup_ok (by show 1 ≤ sizeLine; decide)
theorem gLst_1 {h : DHp} {a : D} : gLst [a] h = .ok (.obj h.length) (h ++ [.lst [a]]) := gLst_ok (by show 1 ≤ sizeLine; decide)
theorem gTup_2 {h : DHp} {a b : D} : gTup [a, b] h = .ok (.tup [a, b]) h := gTup_ok (by show 2 ≤ sizeLine; decide)
theorem gLst_2 {h : DHp} {a b : D} : gLst [a, b] h = .ok (.obj h.length) (h ++ [.lst [a, b]]) := gLst_ok (by show 2 ≤ sizeLine; decide)
theorem gTup_3 {h : DHp} {a b c : D} : gTup [a, b, c] h = .ok (.tup [a, b, c]) h := gTup_ok (by show 3 ≤ sizeLine; decide)
theorem gLst_3 {h : DHp} {a b c : D} : gLst [a, b, c] h = .ok (.obj h.length) (h ++ [.lst [a, b, c]]) := gLst_ok (by show 3 ≤ sizeLine; decide)
theorem gTup_4 {h : DHp} {a b c d : D} : gTup [a, b, c, d] h = .ok (.tup [a, b, c, d]) h := gTup_ok (by show 4 ≤ sizeLine; decide)
theorem gLst_4 {h : DHp} {a b c d : D} : gLst [a, b, c, d] h = .ok (.obj h.length) (h ++ [.lst [a, b, c, d]]) := gLst_ok (by show 4 ≤ sizeLine; decide)
theorem gTup_5 {h : DHp} {a b c d e : D} : gTup [a, b, c, d, e] h = .ok (.tup [a, b, c, d, e]) h := gTup_ok (by show 5 ≤ sizeLine; decide)
theorem gLst_5 {h : DHp} {a b c d e : D} : gLst [a, b, c, d, e] h = .ok (.obj h.length) (h ++ [.lst [a, b, c, d, e]]) := gLst_ok (by show 5 ≤ sizeLine; decide)
theorem gTup_6 {h : DHp} {a b c d e f : D} : gTup [a, b, c, d, e, f] h = .ok (.tup [a, b, c, d, e, f]) h := gTup_ok (by show 6 ≤ sizeLine; decide)
theorem gLst_6 {h : DHp} {a b c d e f : D} : gLst [a, b, c, d, e, f] h = .ok (.obj h.length) (h ++ [.lst [a, b, c, d, e, f]]) := gLst_ok (by show 6 ≤ sizeLine; decide)
theorem gTup_7 {h : DHp} {a b c d e f g : D} : gTup [a, b, c, d, e, f, g] h = .ok (.tup [a, b, c, d, e, f, g]) h := gTup_ok (by show 7 ≤ sizeLine; decide)
theorem gLst_7 {h : DHp} {a b c d e f g : D} : gLst [a, b, c, d, e, f, g] h = .ok (.obj h.length) (h ++ [.lst [a, b, c, d, e, f, g]]) := gLst_ok (by show 7 ≤ sizeLine; decide)
theorem gTup_8 {h : DHp} {a b c d e f g i : D} : gTup [a, b, c, d, e, f, g, i] h = .ok (.tup [a, b, c, d, e, f, g, i]) h := gTup_ok (by show 8 ≤ sizeLine; decide)
theorem gLst_8 {h : DHp} {a b c d e f g i : D} : gLst [a, b, c, d, e, f, g, i] h = .ok (.obj h.length) (h ++ [.lst [a, b, c, d, e, f, g, i]]) := gLst_ok (by show 8 ≤ sizeLine; decide)
theorem gTup_9 {h : DHp} {a b c d e f g i j : D} : gTup [a, b, c, d, e, f, g, i, j] h = .ok (.tup [a, b, c, d, e, f, g, i, j]) h := gTup_ok (by show 9 ≤ sizeLine; decide)
theorem gLst_9 {h : DHp} {a b c d e f g i j : D} : gLst [a, b, c, d, e, f, g, i, j] h = .ok (.obj h.length) (h ++ [.lst [a, b, c, d, e, f, g, i, j]]) := gLst_ok (by show 9 ≤ sizeLine; decide)
end DL
end

section
set_option Elab.async false
set_option linter.all false
set_option maxRecDepth 100000
set_option maxHeartbeats 4000000
/-! printed by gen.py: the walk -/
namespace Mill
open PySem PySem.Spec PyProof.Rows
open L2 hiding St
open DL
def topS (i : Nat) : Stmt := PySem.Challenge.pw_millbench_k01_ratio.main.body.getD i (.Pass ⟨0, 0, 0, 0⟩)
def k_ZERO : D := (.tup [(.int 0), (.int 1)])
/-- what the top has written -/
structure Txt (P : Program) (w : World) (K : Fg) (mg : Str → Option Value) (base : Heap) : Prop where
  d__law_jar : DefT K mg "_law_jar" (topS 26) ["script", "k"]
  d__law_take : DefT K mg "_law_take" (topS 27) ["jar", "many"]
  d__law_number : DefT K mg "_law_number" (topS 32) ["jar"]
  d__law_pair : DefT K mg "_law_pair" (topS 33) ["jar"]
  d_fraction : DefT K mg "fraction" (topS 11) ["p", "q"]
  d__law_order : DefT K mg "_law_order" (topS 35) ["a", "b"]
  d_compare : DefT K mg "compare" (topS 16) ["a", "b"]
  d__law_is_whole : DefT K mg "_law_is_whole" (topS 30) ["value"]
  d_lesser : DefT K mg "lesser" (topS 17) ["a", "b"]
  d_greater : DefT K mg "greater" (topS 18) ["a", "b"]
  d_floor_of : DefT K mg "floor_of" (topS 20) ["a"]
  d_ceiling_of : DefT K mg "ceiling_of" (topS 21) ["a"]
  d__law_orders : DefT K mg "_law_orders" (topS 38) ["a", "b"]
  d_in_range : DefT K mg "in_range" (topS 23) ["value", "bounds"]
  d_meet : DefT K mg "meet" (topS 24) ["first", "second"]
  d_is_whole : DefT K mg "is_whole" (topS 8) ["value"]
  d_is_fraction : DefT K mg "is_fraction" (topS 9) ["value"]
  d_is_range : DefT K mg "is_range" (topS 10) ["value"]
  d__law_ranges : DefT K mg "_law_ranges" (topS 39) ["a", "b", "c"]
  d__law_kinds : DefT K mg "_law_kinds" (topS 40) ["a", "p"]
  d__law_gcd : DefT K mg "_law_gcd" (topS 28) ["a", "b"]
  d__law_lowest : DefT K mg "_law_lowest" (topS 29) ["p", "q"]
  d__law_is_fraction : DefT K mg "_law_is_fraction" (topS 31) ["value"]
  d_over : DefT K mg "over" (topS 15) ["a", "b"]
  d__law_zero : DefT K mg "_law_zero" (topS 36) ["p", "a"]
  d_common : DefT K mg "common" (topS 22) ["values"]
  d__law_is : DefT K mg "_law_is" (topS 34) ["value", "p", "q"]
  d_plus : DefT K mg "plus" (topS 12) ["a", "b"]
  d_minus : DefT K mg "minus" (topS 13) ["a", "b"]
  d_times : DefT K mg "times" (topS 14) ["a", "b"]
  d_total : DefT K mg "total" (topS 19) ["values"]
  d__law_sums : DefT K mg "_law_sums" (topS 37) ["a", "b", "c", "jar"]
  d_law : DefT K mg "law" (topS 41) ["script"]
  b_ValueError : mg "ValueError" = none
  b_abs : mg "abs" = none
  b_bool : mg "bool" = none
  b_gcd : mg "gcd" = some (.builtin "math.gcd")
  b_int : mg "int" = none
  b_isinstance : mg "isinstance" = none
  b_lcm : mg "lcm" = some (.builtin "math.lcm")
  b_len : mg "len" = none
  b_list : mg "list" = none
  b_range : mg "range" = none
  b_str : mg "str" = none
  b_tuple : mg "tuple" = none
  k_ZERO : KCon K mg "ZERO" k_ZERO
  g_BadCount : mg "BadCount" = some (.ref (ctOf mg "BadCount"))
  g_MillError : mg "MillError" = some (.ref (ctOf mg "MillError"))
  g_TooLarge : mg "TooLarge" = some (.ref (ctOf mg "TooLarge"))
  g_ZeroDenominator : mg "ZeroDenominator" = some (.ref (ctOf mg "ZeroDenominator"))
  e_ZeroDenominator : ExT K mg (ctOf mg) "ZeroDenominator" (ctOf mg "ZeroDenominator")
  i_ZeroDenominator : IniT P w K mg base (ctOf mg "ZeroDenominator") ["number"]
  xm_MillError : XM K mg [("ZeroDenominator", true)] "MillError"
  xm_ZeroDenominator : XM K mg [("ZeroDenominator", true)] "ZeroDenominator"
  kt_BadCount : KT K mg [("ZeroDenominator", false)] (.ref (ctOf mg "BadCount"))
  kt_TooLarge : KT K mg [("ZeroDenominator", false)] (.ref (ctOf mg "TooLarge"))
  kt_ValueError : KT K mg [("ZeroDenominator", true)] (.type "ValueError")
  kt_ZeroDenominator : KT K mg [("ZeroDenominator", true)] (.ref (ctOf mg "ZeroDenominator"))
  xf_number_ZeroDenominator : XF K mg ["ZeroDenominator"] "number"
  hn : PySem.W.specialIn K (.builtin "object.__class__") "__get__" = some (some (.builtin "getset_descriptor.__get__"))
  ht : PySem.W.takesIn K (.builtin "object.__class__") = some true
section
variable {P : Program} {w : World} {K : Fg} {mg : Str → Option Value} {base : Heap}
noncomputable def body__law_jar : DSt → DHp → SR :=
    (dSeq (dSet 2 (dC (.int 0)))
    (dSeq (dIf (dTb (dBin gLt (dVar 1) (dArgs gLen (dCons (dVar 0) dNil))))
    (dSet 2 (dBin gMod (dArgs gInt (dCons (dBin gIx (dVar 0) (dVar 1)) dNil)) (dBin gPow (dBin gPow (dC (.int 10)) (dC (.int 60))) (dC (.int 10)))))
    dSkip)
    (dSeq (dSet 3 (dC (.int 0)))
    (dSeq (dIf (dTb (dBin gGe (dVar 2) (dBin gPow (dC (.int 10)) (dC (.int 18)))))
    (dSet 3 (dVar 2))
    dSkip)
    (dRet (dArgs gLst (dCons (dVar 3) (dCons (dBin gMod (dArgs gInt (dCons (dBin gAdd (dBin gAdd (dBin gMul (dVar 2) (dC (.int 31))) (dBin gMul (dVar 1) (dC (.int 69621)))) (dC (.int 17))) dNil)) (dC (.int 2147483629))) (dCons (dC (.int 1)) dNil)))))))))
noncomputable def sem__law_jar : Sem' := semOf 4 body__law_jar
theorem sc__law_jar : FnScope ["script", "k", "cell", "left"] ["script", "k"] (defScope (topS 26)) := ⟨rfl, rfl, rfl, by decide +kernel, rfl, by decide +kernel, by decide +kernel⟩
theorem ok__law_jar (T : Txt P w K mg base) : FnT P w K mg base 1 "_law_jar" ["script", "k"] sem__law_jar := by
  have S := sc__law_jar
  refine fnT_of 0 T.d__law_jar S fun f cdv A outer s H E hr tk => ?_
  exact (dss_cons (ds_set (i := 2) S.nd rfl (Or.inl rfl) de_int)
    (dss_cons (ds_if (dt_cmp op_ltD ne_Lt (dv 1) (de_callB cr_len ne_Len (by rfl) T.b_len bo_len (da_cons (dv 0) da_nil)) (nomark _))
    (dss_one (ds_set (i := 2) S.nd rfl (Or.inl rfl) (de_bin op_modD ne_Mod (de_callTy cr_int ne_Int (by rfl) T.b_int bo_int (da_cons (de_ix ix_D ne_Ix (dv 0) (dv 1) (fun _ _ => rfl)) da_nil)) (de_bin op_powD ne_Pow (de_bin op_powD ne_Pow de_int de_int) de_int))))
    dss_nil)
    (dss_cons (ds_set (i := 3) S.nd rfl (Or.inl rfl) de_int)
    (dss_cons (ds_if (dt_cmp op_geD ne_Ge (dv 2) (de_bin op_powD ne_Pow de_int de_int) (nomark _))
    (dss_one (ds_set (i := 3) S.nd rfl (Or.inl rfl) (dv 2)))
    dss_nil)
    (dss_one (ds_ret (de_lst (da_cons (dv 3) (da_cons (de_bin op_modD ne_Mod (de_callTy cr_int ne_Int (by rfl) T.b_int bo_int (da_cons (de_bin op_addD ne_Add (de_bin op_addD ne_Add (de_bin op_mulD ne_Mul (dv 2) de_int) (de_bin op_mulD ne_Mul (dv 1) de_int)) de_int) da_nil)) de_int) (da_cons de_int da_nil))))))))))
noncomputable def body__law_take : DSt → DHp → SR :=
    (dSeq (dIf (dTb (dBin gGt (dBin gIx (dVar 0) (dC (.int 0))) (dC (.int 0))))
    (dSeq (dSet 2 (dBin gMod (dArgs gInt (dCons (dBin gIx (dVar 0) (dC (.int 0))) dNil)) (dVar 1)))
    (dSeq (dSto (dBin gFdiv (dBin gIx (dVar 0) (dC (.int 0))) (dVar 1)) (dVar 0) (dC (.int 0)))
    (dRet (dVar 2))))
    dSkip)
    (dSeq (dSto (dBin gAdd (dBin gIx (dVar 0) (dC (.int 2))) (dC (.int 1))) (dVar 0) (dC (.int 2)))
    (dSeq (dSto (dBin gMod (dArgs gInt (dCons (dBin gAdd (dBin gAdd (dBin gMul (dBin gIx (dVar 0) (dC (.int 1))) (dC (.int 48271))) (dBin gMul (dBin gIx (dVar 0) (dC (.int 2))) (dC (.int 69621)))) (dC (.int 11))) dNil)) (dC (.int 2147483629))) (dVar 0) (dC (.int 1)))
    (dSeq (dSet 3 (dBin gMod (dArgs gInt (dCons (dBin gMul (dBin gIx (dVar 0) (dC (.int 1))) (dBin gAdd (dBin gMod (dArgs gInt (dCons (dBin gIx (dVar 0) (dC (.int 1))) dNil)) (dC (.int 65521))) (dBin gIx (dVar 0) (dC (.int 2))))) dNil)) (dC (.int 2147483587))))
    (dRet (dBin gMod (dArgs gInt (dCons (dBin gFdiv (dVar 3) (dC (.int 7))) dNil)) (dVar 1)))))))
noncomputable def sem__law_take : Sem' := semOf 4 body__law_take
theorem sc__law_take : FnScope ["jar", "many", "found", "mixed"] ["jar", "many"] (defScope (topS 27)) := ⟨rfl, rfl, rfl, by decide +kernel, rfl, by decide +kernel, by decide +kernel⟩
theorem ok__law_take (T : Txt P w K mg base) : FnT P w K mg base 1 "_law_take" ["jar", "many"] sem__law_take := by
  have S := sc__law_take
  refine fnT_of 0 T.d__law_take S fun f cdv A outer s H E hr tk => ?_
  exact (dss_cons (ds_if (dt_cmp op_gtD ne_Gt (de_ix ix_D ne_Ix (dv 0) de_int (fun _ _ => rfl)) de_int (nomark _))
    (dss_cons (ds_set (i := 2) S.nd rfl (Or.inl rfl) (de_bin op_modD ne_Mod (de_callTy cr_int ne_Int (by rfl) T.b_int bo_int (da_cons (de_ix ix_D ne_Ix (dv 0) de_int (fun _ _ => rfl)) da_nil)) (dv 1)))
    (dss_cons (ds_sto (de_bin op_fdivD ne_Fdiv (de_ix ix_D ne_Ix (dv 0) de_int (fun _ _ => rfl)) (dv 1)) (dv 0) de_int)
    (dss_one (ds_ret (dv 2)))))
    dss_nil)
    (dss_cons (ds_sto (de_bin op_addD ne_Add (de_ix ix_D ne_Ix (dv 0) de_int (fun _ _ => rfl)) de_int) (dv 0) de_int)
    (dss_cons (ds_sto (de_bin op_modD ne_Mod (de_callTy cr_int ne_Int (by rfl) T.b_int bo_int (da_cons (de_bin op_addD ne_Add (de_bin op_addD ne_Add (de_bin op_mulD ne_Mul (de_ix ix_D ne_Ix (dv 0) de_int (fun _ _ => rfl)) de_int) (de_bin op_mulD ne_Mul (de_ix ix_D ne_Ix (dv 0) de_int (fun _ _ => rfl)) de_int)) de_int) da_nil)) de_int) (dv 0) de_int)
    (dss_cons (ds_set (i := 3) S.nd rfl (Or.inl rfl) (de_bin op_modD ne_Mod (de_callTy cr_int ne_Int (by rfl) T.b_int bo_int (da_cons (de_bin op_mulD ne_Mul (de_ix ix_D ne_Ix (dv 0) de_int (fun _ _ => rfl)) (de_bin op_addD ne_Add (de_bin op_modD ne_Mod (de_callTy cr_int ne_Int (by rfl) T.b_int bo_int (da_cons (de_ix ix_D ne_Ix (dv 0) de_int (fun _ _ => rfl)) da_nil)) de_int) (de_ix ix_D ne_Ix (dv 0) de_int (fun _ _ => rfl)))) da_nil)) de_int))
    (dss_one (ds_ret (de_bin op_modD ne_Mod (de_callTy cr_int ne_Int (by rfl) T.b_int bo_int (da_cons (de_bin op_fdivD ne_Fdiv (dv 3) de_int) da_nil)) (dv 1))))))))
noncomputable def body__law_number : DSt → DHp → SR :=
    (dSeq (dSet 1 (dArgs sem__law_take (dCons (dVar 0) (dCons (dC (.int 4)) dNil))))
    (dSeq (dSet 2 (dArgs sem__law_take (dCons (dVar 0) (dCons (dC (.int 10)) dNil))))
    (dSeq (dIf (dTb (dBin gEq (dVar 1) (dC (.int 1))))
    (dSet 2 (dArgs sem__law_take (dCons (dVar 0) (dCons (dC (.int 1000001)) dNil))))
    dSkip)
    (dSeq (dIf (dTb (dBin gEq (dVar 1) (dC (.int 2))))
    (dSet 2 (dBin gAdd (dBin gMul (dArgs sem__law_take (dCons (dVar 0) (dCons (dBin gPow (dC (.int 10)) (dC (.int 12))) dNil))) (dBin gPow (dC (.int 10)) (dC (.int 28)))) (dArgs sem__law_take (dCons (dVar 0) (dCons (dBin gPow (dC (.int 10)) (dC (.int 12))) dNil)))))
    dSkip)
    (dSeq (dIf (dTb (dBin gEq (dArgs sem__law_take (dCons (dVar 0) (dCons (dC (.int 3)) dNil))) (dC (.int 0))))
    (dSet 2 (dUn gNeg (dVar 2)))
    dSkip)
    (dRet (dVar 2)))))))
noncomputable def sem__law_number : Sem' := semOf 3 body__law_number
theorem sc__law_number : FnScope ["jar", "size", "value"] ["jar"] (defScope (topS 32)) := ⟨rfl, rfl, rfl, by decide +kernel, rfl, by decide +kernel, by decide +kernel⟩
theorem ok__law_number (T : Txt P w K mg base) : FnT P w K mg base 2 "_law_number" ["jar"] sem__law_number := by
  have c__law_take := ok__law_take T
  have S := sc__law_number
  refine fnT_of 1 T.d__law_number S fun f cdv A outer s H E hr tk => ?_
  exact (dss_cons (ds_set (i := 1) S.nd rfl (Or.inl rfl) (de_callT c__law_take rfl hr (by decide) (by rfl) tk (da_cons (dv 0) (da_cons de_int da_nil)) (argN_cons (argN_cons argN_nil))))
    (dss_cons (ds_set (i := 2) S.nd rfl (Or.inl rfl) (de_callT c__law_take rfl hr (by decide) (by rfl) tk (da_cons (dv 0) (da_cons de_int da_nil)) (argN_cons (argN_cons argN_nil))))
    (dss_cons (ds_if (dt_cmp (op_eqA hr.units) ne_Eq (dv 1) de_int (nomark _))
    (dss_one (ds_set (i := 2) S.nd rfl (Or.inl rfl) (de_callT c__law_take rfl hr (by decide) (by rfl) tk (da_cons (dv 0) (da_cons de_int da_nil)) (argN_cons (argN_cons argN_nil)))))
    dss_nil)
    (dss_cons (ds_if (dt_cmp (op_eqA hr.units) ne_Eq (dv 1) de_int (nomark _))
    (dss_one (ds_set (i := 2) S.nd rfl (Or.inl rfl) (de_bin op_addD ne_Add (de_bin op_mulD ne_Mul (de_callT c__law_take rfl hr (by decide) (by rfl) tk (da_cons (dv 0) (da_cons (de_bin op_powD ne_Pow de_int de_int) da_nil)) (argN_cons (argN_cons argN_nil))) (de_bin op_powD ne_Pow de_int de_int)) (de_callT c__law_take rfl hr (by decide) (by rfl) tk (da_cons (dv 0) (da_cons (de_bin op_powD ne_Pow de_int de_int) da_nil)) (argN_cons (argN_cons argN_nil))))))
    dss_nil)
    (dss_cons (ds_if (dt_cmp (op_eqA hr.units) ne_Eq (de_callT c__law_take rfl hr (by decide) (by rfl) tk (da_cons (dv 0) (da_cons de_int da_nil)) (argN_cons (argN_cons argN_nil))) de_int (nomark _))
    (dss_one (ds_set (i := 2) S.nd rfl (Or.inl rfl) (de_un un_negD ne_Neg (dv 2))))
    dss_nil)
    (dss_one (ds_ret (dv 2))))))))
noncomputable def body__law_pair : DSt → DHp → SR :=
    (dSeq (dSet 1 (dArgs sem__law_number (dCons (dVar 0) dNil)))
    (dSeq (dSet 2 (dArgs sem__law_number (dCons (dVar 0) dNil)))
    (dSeq (dIf (dTb (dBin gEq (dVar 2) (dC (.int 0))))
    (dSet 2 (dBin gAdd (dC (.int 1)) (dArgs sem__law_take (dCons (dVar 0) (dCons (dC (.int 6)) dNil)))))
    dSkip)
    (dRet (dArgs gTup (dCons (dVar 1) (dCons (dVar 2) dNil)))))))
noncomputable def sem__law_pair : Sem' := semOf 3 body__law_pair
theorem sc__law_pair : FnScope ["jar", "p", "q"] ["jar"] (defScope (topS 33)) := ⟨rfl, rfl, rfl, by decide +kernel, rfl, by decide +kernel, by decide +kernel⟩
theorem ok__law_pair (T : Txt P w K mg base) : FnT P w K mg base 3 "_law_pair" ["jar"] sem__law_pair := by
  have c__law_number := ok__law_number T
  have c__law_take := ok__law_take T
  have S := sc__law_pair
  refine fnT_of 2 T.d__law_pair S fun f cdv A outer s H E hr tk => ?_
  exact (dss_cons (ds_set (i := 1) S.nd rfl (Or.inl rfl) (de_callT c__law_number rfl hr (by decide) (by rfl) tk (da_cons (dv 0) da_nil) (argN_cons argN_nil)))
    (dss_cons (ds_set (i := 2) S.nd rfl (Or.inl rfl) (de_callT c__law_number rfl hr (by decide) (by rfl) tk (da_cons (dv 0) da_nil) (argN_cons argN_nil)))
    (dss_cons (ds_if (dt_cmp (op_eqA hr.units) ne_Eq (dv 2) de_int (nomark _))
    (dss_one (ds_set (i := 2) S.nd rfl (Or.inl rfl) (de_bin op_addD ne_Add de_int (de_callT c__law_take rfl hr (by decide) (by rfl) tk (da_cons (dv 0) (da_cons de_int da_nil)) (argN_cons (argN_cons argN_nil))))))
    dss_nil)
    (dss_one (ds_ret (de_tup (da_cons (dv 1) (da_cons (dv 2) da_nil))))))))
noncomputable def body_fraction : DSt → DHp → SR :=
    (dSeq (dIf (dTb (dBin gEq (dVar 1) (dC (.int 0))))
    (dRaise "ZeroDenominator" ["number"] (dCons (dVar 0) dNil))
    dSkip)
    (dSeq (dIf (dTb (dBin gLt (dVar 1) (dC (.int 0))))
    (dSeq (dSet 0 (dUn gNeg (dVar 0)))
    (dSet 1 (dUn gNeg (dVar 1))))
    dSkip)
    (dSeq (dSet 2 (dArgs gGcd (dCons (dVar 0) (dCons (dVar 1) dNil))))
    (dRet (dArgs gTup (dCons (dBin gFdiv (dVar 0) (dVar 2)) (dCons (dBin gFdiv (dVar 1) (dVar 2)) dNil)))))))
noncomputable def sem_fraction : Sem' := semOf 3 body_fraction
theorem sc_fraction : FnScope ["p", "q", "shared"] ["p", "q"] (defScope (topS 11)) := ⟨rfl, rfl, rfl, by decide +kernel, rfl, by decide +kernel, by decide +kernel⟩
theorem ok_fraction (T : Txt P w K mg base) : FnT P w K mg base 3 "fraction" ["p", "q"] sem_fraction := by
  have S := sc_fraction
  refine fnT_of 2 T.d_fraction S fun f cdv A outer s H E hr tk => ?_
  exact (dss_cons (ds_if (dt_cmp (op_eqA hr.units) ne_Eq (dv 1) de_int (nomark _))
    (dss_one (ds_raise rfl T.e_ZeroDenominator T.i_ZeroDenominator (hr.mono (by decide)) tk (by rfl) (da_cons (dv 0) da_nil)))
    dss_nil)
    (dss_cons (ds_if (dt_cmp op_ltD ne_Lt (dv 1) de_int (nomark _))
    (dss_cons (ds_set (i := 0) S.nd rfl (Or.inl rfl) (de_un un_negD ne_Neg (dv 0)))
    (dss_one (ds_set (i := 1) S.nd rfl (Or.inl rfl) (de_un un_negD ne_Neg (dv 1)))))
    dss_nil)
    (dss_cons (ds_set (i := 2) S.nd rfl (Or.inl rfl) (de_callM cr_gcdD ne_Gcd (by rfl) T.b_gcd (da_cons (dv 0) (da_cons (dv 1) da_nil))))
    (dss_one (ds_ret (de_tup (da_cons (de_bin op_fdivD ne_Fdiv (dv 0) (dv 2)) (da_cons (de_bin op_fdivD ne_Fdiv (dv 1) (dv 2)) da_nil))))))))
noncomputable def body__law_order : DSt → DHp → SR :=
    (dSeq (dSet 2 (dBin gMul (dBin gIx (dVar 0) (dC (.int 0))) (dBin gIx (dVar 1) (dC (.int 1)))))
    (dSeq (dSet 3 (dBin gMul (dBin gIx (dVar 1) (dC (.int 0))) (dBin gIx (dVar 0) (dC (.int 1)))))
    (dSeq (dIf (dTb (dBin gLt (dVar 2) (dVar 3)))
    (dRet (dUn gNeg (dC (.int 1))))
    dSkip)
    (dSeq (dIf (dTb (dBin gGt (dVar 2) (dVar 3)))
    (dRet (dC (.int 1)))
    dSkip)
    (dRet (dC (.int 0)))))))
noncomputable def sem__law_order : Sem' := semOf 4 body__law_order
theorem sc__law_order : FnScope ["a", "b", "left", "right"] ["a", "b"] (defScope (topS 35)) := ⟨rfl, rfl, rfl, by decide +kernel, rfl, by decide +kernel, by decide +kernel⟩
theorem ok__law_order (T : Txt P w K mg base) : FnT P w K mg base 1 "_law_order" ["a", "b"] sem__law_order := by
  have S := sc__law_order
  refine fnT_of 0 T.d__law_order S fun f cdv A outer s H E hr tk => ?_
  exact (dss_cons (ds_set (i := 2) S.nd rfl (Or.inl rfl) (de_bin op_mulD ne_Mul (de_ix ix_D ne_Ix (dv 0) de_int (fun _ _ => rfl)) (de_ix ix_D ne_Ix (dv 1) de_int (fun _ _ => rfl))))
    (dss_cons (ds_set (i := 3) S.nd rfl (Or.inl rfl) (de_bin op_mulD ne_Mul (de_ix ix_D ne_Ix (dv 1) de_int (fun _ _ => rfl)) (de_ix ix_D ne_Ix (dv 0) de_int (fun _ _ => rfl))))
    (dss_cons (ds_if (dt_cmp op_ltD ne_Lt (dv 2) (dv 3) (nomark _))
    (dss_one (ds_ret (de_un un_negD ne_Neg de_int)))
    dss_nil)
    (dss_cons (ds_if (dt_cmp op_gtD ne_Gt (dv 2) (dv 3) (nomark _))
    (dss_one (ds_ret de_int))
    dss_nil)
    (dss_one (ds_ret de_int))))))
noncomputable def body_compare : DSt → DHp → SR :=
    (dSeq (dSet 2 (dBin gMul (dBin gIx (dVar 0) (dC (.int 0))) (dBin gIx (dVar 1) (dC (.int 1)))))
    (dSeq (dSet 3 (dBin gMul (dBin gIx (dVar 1) (dC (.int 0))) (dBin gIx (dVar 0) (dC (.int 1)))))
    (dSeq (dIf (dTb (dBin gLt (dVar 2) (dVar 3)))
    (dRet (dUn gNeg (dC (.int 1))))
    dSkip)
    (dSeq (dIf (dTb (dBin gGt (dVar 2) (dVar 3)))
    (dRet (dC (.int 1)))
    dSkip)
    (dRet (dC (.int 0)))))))
noncomputable def sem_compare : Sem' := semOf 4 body_compare
theorem sc_compare : FnScope ["a", "b", "left", "right"] ["a", "b"] (defScope (topS 16)) := ⟨rfl, rfl, rfl, by decide +kernel, rfl, by decide +kernel, by decide +kernel⟩
theorem ok_compare (T : Txt P w K mg base) : FnT P w K mg base 1 "compare" ["a", "b"] sem_compare := by
  have S := sc_compare
  refine fnT_of 0 T.d_compare S fun f cdv A outer s H E hr tk => ?_
  exact (dss_cons (ds_set (i := 2) S.nd rfl (Or.inl rfl) (de_bin op_mulD ne_Mul (de_ix ix_D ne_Ix (dv 0) de_int (fun _ _ => rfl)) (de_ix ix_D ne_Ix (dv 1) de_int (fun _ _ => rfl))))
    (dss_cons (ds_set (i := 3) S.nd rfl (Or.inl rfl) (de_bin op_mulD ne_Mul (de_ix ix_D ne_Ix (dv 1) de_int (fun _ _ => rfl)) (de_ix ix_D ne_Ix (dv 0) de_int (fun _ _ => rfl))))
    (dss_cons (ds_if (dt_cmp op_ltD ne_Lt (dv 2) (dv 3) (nomark _))
    (dss_one (ds_ret (de_un un_negD ne_Neg de_int)))
    dss_nil)
    (dss_cons (ds_if (dt_cmp op_gtD ne_Gt (dv 2) (dv 3) (nomark _))
    (dss_one (ds_ret de_int))
    dss_nil)
    (dss_one (ds_ret de_int))))))
noncomputable def body__law_is_whole : DSt → DHp → SR :=
    (dRet (dAndV (dArgs gIsi (dCons (dVar 0) (dCons (dC (.ty "int")) dNil))) (dNotV (dArgs gIsi (dCons (dVar 0) (dCons (dC (.ty "bool")) dNil))))))
noncomputable def sem__law_is_whole : Sem' := semOf 1 body__law_is_whole
theorem sc__law_is_whole : FnScope ["value"] ["value"] (defScope (topS 30)) := ⟨rfl, rfl, rfl, by decide +kernel, rfl, by decide +kernel, by decide +kernel⟩
theorem ok__law_is_whole (T : Txt P w K mg base) : FnT P w K mg base 1 "_law_is_whole" ["value"] sem__law_is_whole := by
  have S := sc__law_is_whole
  refine fnT_of 0 T.d__law_is_whole S fun f cdv A outer s H E hr tk => ?_
  exact (dss_one (ds_ret (de_and (de_callB cr_isi ne_Isi (by rfl) T.b_isinstance bo_isinstance (da_cons (dv 0) (da_cons (de_ty (by rfl) T.b_int bo_int) da_nil))) (de_one (de_not (de_callB cr_isi ne_Isi (by rfl) T.b_isinstance bo_isinstance (da_cons (dv 0) (da_cons (de_ty (by rfl) T.b_bool bo_bool) da_nil))))))))
theorem okh__law_is_whole (T : Txt P w K mg base) : FnTH P w K mg base 1 "_law_is_whole" ["value"] sem__law_is_whole := by
  have S := sc__law_is_whole
  refine fnTH_of 0 T.d__law_is_whole S fun f cdv A outer s H E pp hot hr => ?_
  exact (dss_one (ds_ret (de_and (de_callB cr_isi ne_Isi (by rfl) T.b_isinstance bo_isinstance (da_cons (dv 0) (da_cons (de_ty (by rfl) T.b_int bo_int) da_nil))) (de_one (de_not (de_callB cr_isi ne_Isi (by rfl) T.b_isinstance bo_isinstance (da_cons (dv 0) (da_cons (de_ty (by rfl) T.b_bool bo_bool) da_nil))))))))
noncomputable def body_lesser : DSt → DHp → SR :=
    (dSeq (dIf (dTb (dBin gLt (dArgs sem_compare (dCons (dVar 1) (dCons (dVar 0) dNil))) (dC (.int 0))))
    (dRet (dVar 1))
    dSkip)
    (dRet (dVar 0)))
noncomputable def sem_lesser : Sem' := semOf 2 body_lesser
theorem sc_lesser : FnScope ["a", "b"] ["a", "b"] (defScope (topS 17)) := ⟨rfl, rfl, rfl, by decide +kernel, rfl, by decide +kernel, by decide +kernel⟩
theorem ok_lesser (T : Txt P w K mg base) : FnT P w K mg base 2 "lesser" ["a", "b"] sem_lesser := by
  have c_compare := ok_compare T
  have S := sc_lesser
  refine fnT_of 1 T.d_lesser S fun f cdv A outer s H E hr tk => ?_
  exact (dss_cons (ds_if (dt_cmp op_ltD ne_Lt (de_callT c_compare rfl hr (by decide) (by rfl) tk (da_cons (dv 1) (da_cons (dv 0) da_nil)) (argN_cons (argN_cons argN_nil))) de_int (nomark _))
    (dss_one (ds_ret (dv 1)))
    dss_nil)
    (dss_one (ds_ret (dv 0))))
noncomputable def body_greater : DSt → DHp → SR :=
    (dSeq (dIf (dTb (dBin gGt (dArgs sem_compare (dCons (dVar 1) (dCons (dVar 0) dNil))) (dC (.int 0))))
    (dRet (dVar 1))
    dSkip)
    (dRet (dVar 0)))
noncomputable def sem_greater : Sem' := semOf 2 body_greater
theorem sc_greater : FnScope ["a", "b"] ["a", "b"] (defScope (topS 18)) := ⟨rfl, rfl, rfl, by decide +kernel, rfl, by decide +kernel, by decide +kernel⟩
theorem ok_greater (T : Txt P w K mg base) : FnT P w K mg base 2 "greater" ["a", "b"] sem_greater := by
  have c_compare := ok_compare T
  have S := sc_greater
  refine fnT_of 1 T.d_greater S fun f cdv A outer s H E hr tk => ?_
  exact (dss_cons (ds_if (dt_cmp op_gtD ne_Gt (de_callT c_compare rfl hr (by decide) (by rfl) tk (da_cons (dv 1) (da_cons (dv 0) da_nil)) (argN_cons (argN_cons argN_nil))) de_int (nomark _))
    (dss_one (ds_ret (dv 1)))
    dss_nil)
    (dss_one (ds_ret (dv 0))))
noncomputable def body_floor_of : DSt → DHp → SR :=
    (dRet (dBin gFdiv (dBin gIx (dVar 0) (dC (.int 0))) (dBin gIx (dVar 0) (dC (.int 1)))))
noncomputable def sem_floor_of : Sem' := semOf 1 body_floor_of
theorem sc_floor_of : FnScope ["a"] ["a"] (defScope (topS 20)) := ⟨rfl, rfl, rfl, by decide +kernel, rfl, by decide +kernel, by decide +kernel⟩
theorem ok_floor_of (T : Txt P w K mg base) : FnT P w K mg base 1 "floor_of" ["a"] sem_floor_of := by
  have S := sc_floor_of
  refine fnT_of 0 T.d_floor_of S fun f cdv A outer s H E hr tk => ?_
  exact (dss_one (ds_ret (de_bin op_fdivD ne_Fdiv (de_ix ix_D ne_Ix (dv 0) de_int (fun _ _ => rfl)) (de_ix ix_D ne_Ix (dv 0) de_int (fun _ _ => rfl)))))
noncomputable def body_ceiling_of : DSt → DHp → SR :=
    (dRet (dUn gNeg (dBin gFdiv (dUn gNeg (dBin gIx (dVar 0) (dC (.int 0)))) (dBin gIx (dVar 0) (dC (.int 1))))))
noncomputable def sem_ceiling_of : Sem' := semOf 1 body_ceiling_of
theorem sc_ceiling_of : FnScope ["a"] ["a"] (defScope (topS 21)) := ⟨rfl, rfl, rfl, by decide +kernel, rfl, by decide +kernel, by decide +kernel⟩
theorem ok_ceiling_of (T : Txt P w K mg base) : FnT P w K mg base 1 "ceiling_of" ["a"] sem_ceiling_of := by
  have S := sc_ceiling_of
  refine fnT_of 0 T.d_ceiling_of S fun f cdv A outer s H E hr tk => ?_
  exact (dss_one (ds_ret (de_un un_negD ne_Neg (de_bin op_fdivD ne_Fdiv (de_un un_negD ne_Neg (de_ix ix_D ne_Ix (dv 0) de_int (fun _ _ => rfl))) (de_ix ix_D ne_Ix (dv 0) de_int (fun _ _ => rfl))))))
noncomputable def body__law_orders : DSt → DHp → SR :=
    (dSeq (dSet 2 (dArgs sem__law_order (dCons (dVar 0) (dCons (dVar 1) dNil))))
    (dSeq (dSet 3 (dArgs sem_compare (dCons (dVar 0) (dCons (dVar 1) dNil))))
    (dSeq (dIf (dOr (dNot (dTru (dArgs sem__law_is_whole (dCons (dVar 3) dNil)))) (dOr (dTb (dBin gNe (dVar 3) (dVar 2))) (dOr (dTb (dBin gNe (dArgs sem_compare (dCons (dVar 1) (dCons (dVar 0) dNil))) (dUn gNeg (dVar 2)))) (dTb (dBin gNe (dArgs sem_compare (dCons (dVar 0) (dCons (dVar 0) dNil))) (dC (.int 0)))))))
    (dRet (dC (.bl false)))
    dSkip)
    (dSeq (dSet 4 (dVar 0))
    (dSeq (dSet 5 (dVar 1))
    (dSeq (dIf (dTb (dBin gGt (dVar 2) (dC (.int 0))))
    (dSeq (dSet 4 (dVar 1))
    (dSet 5 (dVar 0)))
    dSkip)
    (dSeq (dIf (dOr (dTb (dBin gNe (dArgs sem_lesser (dCons (dVar 0) (dCons (dVar 1) dNil))) (dVar 4))) (dTb (dBin gNe (dArgs sem_greater (dCons (dVar 0) (dCons (dVar 1) dNil))) (dVar 5))))
    (dRet (dC (.bl false)))
    dSkip)
    (dSeq (dSet 6 (dBin gFdiv (dBin gIx (dVar 0) (dC (.int 0))) (dBin gIx (dVar 0) (dC (.int 1)))))
    (dSeq (dSet 7 (dUn gNeg (dBin gFdiv (dUn gNeg (dBin gIx (dVar 0) (dC (.int 0)))) (dBin gIx (dVar 0) (dC (.int 1))))))
    (dSeq (dIf (dOr (dNot (dTru (dArgs sem__law_is_whole (dCons (dArgs sem_floor_of (dCons (dVar 0) dNil)) dNil)))) (dTb (dBin gNe (dArgs sem_floor_of (dCons (dVar 0) dNil)) (dVar 6))))
    (dRet (dC (.bl false)))
    dSkip)
    (dRet (dAndV (dArgs sem__law_is_whole (dCons (dArgs sem_ceiling_of (dCons (dVar 0) dNil)) dNil)) (dBin gEq (dArgs sem_ceiling_of (dCons (dVar 0) dNil)) (dVar 7))))))))))))))
noncomputable def sem__law_orders : Sem' := semOf 8 body__law_orders
theorem sc__law_orders : FnScope ["a", "b", "due", "told", "least", "most", "floor", "ceiling"] ["a", "b"] (defScope (topS 38)) := ⟨rfl, rfl, rfl, by decide +kernel, rfl, by decide +kernel, by decide +kernel⟩
theorem ok__law_orders (T : Txt P w K mg base) : FnT P w K mg base 3 "_law_orders" ["a", "b"] sem__law_orders := by
  have c__law_is_whole := ok__law_is_whole T
  have c__law_order := ok__law_order T
  have c_ceiling_of := ok_ceiling_of T
  have c_compare := ok_compare T
  have c_floor_of := ok_floor_of T
  have c_greater := ok_greater T
  have c_lesser := ok_lesser T
  have S := sc__law_orders
  refine fnT_of 2 T.d__law_orders S fun f cdv A outer s H E hr tk => ?_
  exact (dss_cons (ds_set (i := 2) S.nd rfl (Or.inl rfl) (de_callT c__law_order rfl hr (by decide) (by rfl) tk (da_cons (dv 0) (da_cons (dv 1) da_nil)) (argN_cons (argN_cons argN_nil))))
    (dss_cons (ds_set (i := 3) S.nd rfl (Or.inl rfl) (de_callT c_compare rfl hr (by decide) (by rfl) tk (da_cons (dv 0) (da_cons (dv 1) da_nil)) (argN_cons (argN_cons argN_nil))))
    (dss_cons (ds_if (dt_w (dw_or (dt_not (dt_tru (de_callT c__law_is_whole rfl hr (by decide) (by rfl) tk (da_cons (dv 3) da_nil) (argN_cons argN_nil)))) (dw_or (dt_cmp (op_neA hr.units) ne_Ne (dv 3) (dv 2) (nomark _)) (dw_or (dt_cmp (op_neA hr.units) ne_Ne (de_callT c_compare rfl hr (by decide) (by rfl) tk (da_cons (dv 1) (da_cons (dv 0) da_nil)) (argN_cons (argN_cons argN_nil))) (de_un un_negD ne_Neg (dv 2)) (nomark _)) (dw_or1 (dt_cmp (op_neA hr.units) ne_Ne (de_callT c_compare rfl hr (by decide) (by rfl) tk (da_cons (dv 0) (da_cons (dv 0) da_nil)) (argN_cons (argN_cons argN_nil))) de_int (nomark _)))))))
    (dss_one (ds_ret de_bl))
    dss_nil)
    (dss_cons (ds_set (i := 4) S.nd rfl (Or.inl rfl) (dv 0))
    (dss_cons (ds_set (i := 5) S.nd rfl (Or.inl rfl) (dv 1))
    (dss_cons (ds_if (dt_cmp op_gtD ne_Gt (dv 2) de_int (nomark _))
    (dss_cons (ds_set (i := 4) S.nd rfl (Or.inl rfl) (dv 1))
    (dss_one (ds_set (i := 5) S.nd rfl (Or.inl rfl) (dv 0))))
    dss_nil)
    (dss_cons (ds_if (dt_w (dw_or (dt_cmp (op_neA hr.units) ne_Ne (de_callT c_lesser rfl hr (by decide) (by rfl) tk (da_cons (dv 0) (da_cons (dv 1) da_nil)) (argN_cons (argN_cons argN_nil))) (dv 4) (nomark _)) (dw_or1 (dt_cmp (op_neA hr.units) ne_Ne (de_callT c_greater rfl hr (by decide) (by rfl) tk (da_cons (dv 0) (da_cons (dv 1) da_nil)) (argN_cons (argN_cons argN_nil))) (dv 5) (nomark _)))))
    (dss_one (ds_ret de_bl))
    dss_nil)
    (dss_cons (ds_set (i := 6) S.nd rfl (Or.inl rfl) (de_bin op_fdivD ne_Fdiv (de_ix ix_D ne_Ix (dv 0) de_int (fun _ _ => rfl)) (de_ix ix_D ne_Ix (dv 0) de_int (fun _ _ => rfl))))
    (dss_cons (ds_set (i := 7) S.nd rfl (Or.inl rfl) (de_un un_negD ne_Neg (de_bin op_fdivD ne_Fdiv (de_un un_negD ne_Neg (de_ix ix_D ne_Ix (dv 0) de_int (fun _ _ => rfl))) (de_ix ix_D ne_Ix (dv 0) de_int (fun _ _ => rfl)))))
    (dss_cons (ds_if (dt_w (dw_or (dt_not (dt_tru (de_callT c__law_is_whole rfl hr (by decide) (by rfl) tk (da_cons (de_callT c_floor_of rfl hr (by decide) (by rfl) tk (da_cons (dv 0) da_nil) (argN_cons argN_nil)) da_nil) (argN_cons argN_nil)))) (dw_or1 (dt_cmp (op_neA hr.units) ne_Ne (de_callT c_floor_of rfl hr (by decide) (by rfl) tk (da_cons (dv 0) da_nil) (argN_cons argN_nil)) (dv 6) (nomark _)))))
    (dss_one (ds_ret de_bl))
    dss_nil)
    (dss_one (ds_ret (de_and (de_callT c__law_is_whole rfl hr (by decide) (by rfl) tk (da_cons (de_callT c_ceiling_of rfl hr (by decide) (by rfl) tk (da_cons (dv 0) da_nil) (argN_cons argN_nil)) da_nil) (argN_cons argN_nil)) (de_one (de_cmp (op_eqA hr.units) ne_Eq (de_callT c_ceiling_of rfl hr (by decide) (by rfl) tk (da_cons (dv 0) da_nil) (argN_cons argN_nil)) (dv 7) (nomark _))))))))))))))))
noncomputable def body_in_range : DSt → DHp → SR :=
    (dRet (dAndV (dBin gLe (dArgs sem_compare (dCons (dBin gIx (dVar 1) (dC (.int 0))) (dCons (dVar 0) dNil))) (dC (.int 0))) (dBin gLe (dArgs sem_compare (dCons (dVar 0) (dCons (dBin gIx (dVar 1) (dC (.int 1))) dNil))) (dC (.int 0)))))
noncomputable def sem_in_range : Sem' := semOf 2 body_in_range
theorem sc_in_range : FnScope ["value", "bounds"] ["value", "bounds"] (defScope (topS 23)) := ⟨rfl, rfl, rfl, by decide +kernel, rfl, by decide +kernel, by decide +kernel⟩
theorem ok_in_range (T : Txt P w K mg base) : FnT P w K mg base 2 "in_range" ["value", "bounds"] sem_in_range := by
  have c_compare := ok_compare T
  have S := sc_in_range
  refine fnT_of 1 T.d_in_range S fun f cdv A outer s H E hr tk => ?_
  exact (dss_one (ds_ret (de_and (de_cmp op_leD ne_Le (de_callT c_compare rfl hr (by decide) (by rfl) tk (da_cons (de_ix ix_D ne_Ix (dv 1) de_int (fun _ _ => rfl)) (da_cons (dv 0) da_nil)) (argN_cons (argN_cons argN_nil))) de_int (nomark _)) (de_one (de_cmp op_leD ne_Le (de_callT c_compare rfl hr (by decide) (by rfl) tk (da_cons (dv 0) (da_cons (de_ix ix_D ne_Ix (dv 1) de_int (fun _ _ => rfl)) da_nil)) (argN_cons (argN_cons argN_nil))) de_int (nomark _))))))
noncomputable def body_meet : DSt → DHp → SR :=
    (dSeq (dSet 2 (dArgs sem_greater (dCons (dBin gIx (dVar 0) (dC (.int 0))) (dCons (dBin gIx (dVar 1) (dC (.int 0))) dNil))))
    (dSeq (dSet 3 (dArgs sem_lesser (dCons (dBin gIx (dVar 0) (dC (.int 1))) (dCons (dBin gIx (dVar 1) (dC (.int 1))) dNil))))
    (dSeq (dIf (dTb (dBin gGt (dArgs sem_compare (dCons (dVar 2) (dCons (dVar 3) dNil))) (dC (.int 0))))
    (dRet (dC .non))
    dSkip)
    (dRet (dArgs gTup (dCons (dVar 2) (dCons (dVar 3) dNil)))))))
noncomputable def sem_meet : Sem' := semOf 4 body_meet
theorem sc_meet : FnScope ["first", "second", "lo", "hi"] ["first", "second"] (defScope (topS 24)) := ⟨rfl, rfl, rfl, by decide +kernel, rfl, by decide +kernel, by decide +kernel⟩
theorem ok_meet (T : Txt P w K mg base) : FnT P w K mg base 3 "meet" ["first", "second"] sem_meet := by
  have c_compare := ok_compare T
  have c_greater := ok_greater T
  have c_lesser := ok_lesser T
  have S := sc_meet
  refine fnT_of 2 T.d_meet S fun f cdv A outer s H E hr tk => ?_
  exact (dss_cons (ds_set (i := 2) S.nd rfl (Or.inl rfl) (de_callT c_greater rfl hr (by decide) (by rfl) tk (da_cons (de_ix ix_D ne_Ix (dv 0) de_int (fun _ _ => rfl)) (da_cons (de_ix ix_D ne_Ix (dv 1) de_int (fun _ _ => rfl)) da_nil)) (argN_cons (argN_cons argN_nil))))
    (dss_cons (ds_set (i := 3) S.nd rfl (Or.inl rfl) (de_callT c_lesser rfl hr (by decide) (by rfl) tk (da_cons (de_ix ix_D ne_Ix (dv 0) de_int (fun _ _ => rfl)) (da_cons (de_ix ix_D ne_Ix (dv 1) de_int (fun _ _ => rfl)) da_nil)) (argN_cons (argN_cons argN_nil))))
    (dss_cons (ds_if (dt_cmp op_gtD ne_Gt (de_callT c_compare rfl hr (by decide) (by rfl) tk (da_cons (dv 2) (da_cons (dv 3) da_nil)) (argN_cons (argN_cons argN_nil))) de_int (nomark _))
    (dss_one (ds_ret de_non))
    dss_nil)
    (dss_one (ds_ret (de_tup (da_cons (dv 2) (da_cons (dv 3) da_nil))))))))
noncomputable def body_is_whole : DSt → DHp → SR :=
    (dRet (dAndV (dArgs gIsi (dCons (dVar 0) (dCons (dC (.ty "int")) dNil))) (dNotV (dArgs gIsi (dCons (dVar 0) (dCons (dC (.ty "bool")) dNil))))))
noncomputable def sem_is_whole : Sem' := semOf 1 body_is_whole
theorem sc_is_whole : FnScope ["value"] ["value"] (defScope (topS 8)) := ⟨rfl, rfl, rfl, by decide +kernel, rfl, by decide +kernel, by decide +kernel⟩
theorem ok_is_whole (T : Txt P w K mg base) : FnT P w K mg base 1 "is_whole" ["value"] sem_is_whole := by
  have S := sc_is_whole
  refine fnT_of 0 T.d_is_whole S fun f cdv A outer s H E hr tk => ?_
  exact (dss_one (ds_ret (de_and (de_callB cr_isi ne_Isi (by rfl) T.b_isinstance bo_isinstance (da_cons (dv 0) (da_cons (de_ty (by rfl) T.b_int bo_int) da_nil))) (de_one (de_not (de_callB cr_isi ne_Isi (by rfl) T.b_isinstance bo_isinstance (da_cons (dv 0) (da_cons (de_ty (by rfl) T.b_bool bo_bool) da_nil))))))))
noncomputable def body_is_fraction : DSt → DHp → SR :=
    (dSeq (dIf (dOr (dNot (dTru (dArgs gIsi (dCons (dVar 0) (dCons (dC (.ty "tuple")) dNil))))) (dTb (dBin gNe (dArgs gLen (dCons (dVar 0) dNil)) (dC (.int 2)))))
    (dRet (dC (.bl false)))
    dSkip)
    (dSeq (dIf (dOr (dNot (dTru (dArgs sem_is_whole (dCons (dBin gIx (dVar 0) (dC (.int 0))) dNil)))) (dNot (dTru (dArgs sem_is_whole (dCons (dBin gIx (dVar 0) (dC (.int 1))) dNil)))))
    (dRet (dC (.bl false)))
    dSkip)
    (dRet (dAndV (dBin gGt (dBin gIx (dVar 0) (dC (.int 1))) (dC (.int 0))) (dBin gEq (dArgs gGcd (dCons (dBin gIx (dVar 0) (dC (.int 0))) (dCons (dBin gIx (dVar 0) (dC (.int 1))) dNil))) (dC (.int 1)))))))
noncomputable def sem_is_fraction : Sem' := semOf 1 body_is_fraction
theorem sc_is_fraction : FnScope ["value"] ["value"] (defScope (topS 9)) := ⟨rfl, rfl, rfl, by decide +kernel, rfl, by decide +kernel, by decide +kernel⟩
theorem ok_is_fraction (T : Txt P w K mg base) : FnT P w K mg base 2 "is_fraction" ["value"] sem_is_fraction := by
  have c_is_whole := ok_is_whole T
  have S := sc_is_fraction
  refine fnT_of 1 T.d_is_fraction S fun f cdv A outer s H E hr tk => ?_
  exact (dss_cons (ds_if (dt_w (dw_or (dt_not (dt_tru (de_callB cr_isi ne_Isi (by rfl) T.b_isinstance bo_isinstance (da_cons (dv 0) (da_cons (de_ty (by rfl) T.b_tuple bo_tuple) da_nil))))) (dw_or1 (dt_cmp (op_neA hr.units) ne_Ne (de_callB cr_len ne_Len (by rfl) T.b_len bo_len (da_cons (dv 0) da_nil)) de_int (nomark _)))))
    (dss_one (ds_ret de_bl))
    dss_nil)
    (dss_cons (ds_if (dt_w (dw_or (dt_not (dt_tru (de_callT c_is_whole rfl hr (by decide) (by rfl) tk (da_cons (de_ix ix_D ne_Ix (dv 0) de_int (fun _ _ => rfl)) da_nil) (argN_cons argN_nil)))) (dw_or1 (dt_not (dt_tru (de_callT c_is_whole rfl hr (by decide) (by rfl) tk (da_cons (de_ix ix_D ne_Ix (dv 0) de_int (fun _ _ => rfl)) da_nil) (argN_cons argN_nil)))))))
    (dss_one (ds_ret de_bl))
    dss_nil)
    (dss_one (ds_ret (de_and (de_cmp op_gtD ne_Gt (de_ix ix_D ne_Ix (dv 0) de_int (fun _ _ => rfl)) de_int (nomark _)) (de_one (de_cmp (op_eqA hr.units) ne_Eq (de_callM cr_gcdD ne_Gcd (by rfl) T.b_gcd (da_cons (de_ix ix_D ne_Ix (dv 0) de_int (fun _ _ => rfl)) (da_cons (de_ix ix_D ne_Ix (dv 0) de_int (fun _ _ => rfl)) da_nil))) de_int (nomark _))))))))
noncomputable def body_is_range : DSt → DHp → SR :=
    (dSeq (dIf (dOr (dNot (dTru (dArgs gIsi (dCons (dVar 0) (dCons (dC (.ty "tuple")) dNil))))) (dTb (dBin gNe (dArgs gLen (dCons (dVar 0) dNil)) (dC (.int 2)))))
    (dRet (dC (.bl false)))
    dSkip)
    (dSeq (dIf (dOr (dNot (dTru (dArgs sem_is_fraction (dCons (dBin gIx (dVar 0) (dC (.int 0))) dNil)))) (dNot (dTru (dArgs sem_is_fraction (dCons (dBin gIx (dVar 0) (dC (.int 1))) dNil)))))
    (dRet (dC (.bl false)))
    dSkip)
    (dRet (dBin gLe (dArgs sem_compare (dCons (dBin gIx (dVar 0) (dC (.int 0))) (dCons (dBin gIx (dVar 0) (dC (.int 1))) dNil))) (dC (.int 0))))))
noncomputable def sem_is_range : Sem' := semOf 1 body_is_range
theorem sc_is_range : FnScope ["value"] ["value"] (defScope (topS 10)) := ⟨rfl, rfl, rfl, by decide +kernel, rfl, by decide +kernel, by decide +kernel⟩
theorem ok_is_range (T : Txt P w K mg base) : FnT P w K mg base 3 "is_range" ["value"] sem_is_range := by
  have c_compare := ok_compare T
  have c_is_fraction := ok_is_fraction T
  have S := sc_is_range
  refine fnT_of 2 T.d_is_range S fun f cdv A outer s H E hr tk => ?_
  exact (dss_cons (ds_if (dt_w (dw_or (dt_not (dt_tru (de_callB cr_isi ne_Isi (by rfl) T.b_isinstance bo_isinstance (da_cons (dv 0) (da_cons (de_ty (by rfl) T.b_tuple bo_tuple) da_nil))))) (dw_or1 (dt_cmp (op_neA hr.units) ne_Ne (de_callB cr_len ne_Len (by rfl) T.b_len bo_len (da_cons (dv 0) da_nil)) de_int (nomark _)))))
    (dss_one (ds_ret de_bl))
    dss_nil)
    (dss_cons (ds_if (dt_w (dw_or (dt_not (dt_tru (de_callT c_is_fraction rfl hr (by decide) (by rfl) tk (da_cons (de_ix ix_D ne_Ix (dv 0) de_int (fun _ _ => rfl)) da_nil) (argN_cons argN_nil)))) (dw_or1 (dt_not (dt_tru (de_callT c_is_fraction rfl hr (by decide) (by rfl) tk (da_cons (de_ix ix_D ne_Ix (dv 0) de_int (fun _ _ => rfl)) da_nil) (argN_cons argN_nil)))))))
    (dss_one (ds_ret de_bl))
    dss_nil)
    (dss_one (ds_ret (de_cmp op_leD ne_Le (de_callT c_compare rfl hr (by decide) (by rfl) tk (da_cons (de_ix ix_D ne_Ix (dv 0) de_int (fun _ _ => rfl)) (da_cons (de_ix ix_D ne_Ix (dv 0) de_int (fun _ _ => rfl)) da_nil)) (argN_cons (argN_cons argN_nil))) de_int (nomark _))))))
noncomputable def body__law_ranges : DSt → DHp → SR :=
    (dSeq (dSet 3 (dArgs gTup (dCons (dVar 0) (dCons (dVar 1) dNil))))
    (dSeq (dIf (dTb (dBin gGt (dArgs sem__law_order (dCons (dVar 0) (dCons (dVar 1) dNil))) (dC (.int 0))))
    (dSet 3 (dArgs gTup (dCons (dVar 1) (dCons (dVar 0) dNil))))
    dSkip)
    (dSeq (dSet 4 (dArgs gTup (dCons (dVar 1) (dCons (dVar 2) dNil))))
    (dSeq (dIf (dTb (dBin gGt (dArgs sem__law_order (dCons (dVar 1) (dCons (dVar 2) dNil))) (dC (.int 0))))
    (dSet 4 (dArgs gTup (dCons (dVar 2) (dCons (dVar 1) dNil))))
    dSkip)
    (dSeq (dSet 5 (dAndV (dBin gLe (dArgs sem__law_order (dCons (dBin gIx (dVar 3) (dC (.int 0))) (dCons (dVar 2) dNil))) (dC (.int 0))) (dBin gLe (dArgs sem__law_order (dCons (dVar 2) (dCons (dBin gIx (dVar 3) (dC (.int 1))) dNil))) (dC (.int 0)))))
    (dSeq (dSet 6 (dArgs sem_in_range (dCons (dVar 2) (dCons (dVar 3) dNil))))
    (dSeq (dIf (dOr (dAnd (dTb (dBin gIsN (dVar 6) (dC (.bl true)))) (dTb (dBin gIsN (dVar 6) (dC (.bl false))))) (dTb (dBin gNe (dVar 6) (dVar 5))))
    (dRet (dC (.bl false)))
    dSkip)
    (dSeq (dIf (dOr (dTb (dBin gIsN (dArgs sem_in_range (dCons (dBin gIx (dVar 3) (dC (.int 0))) (dCons (dVar 3) dNil))) (dC (.bl true)))) (dTb (dBin gIsN (dArgs sem_in_range (dCons (dBin gIx (dVar 3) (dC (.int 1))) (dCons (dVar 3) dNil))) (dC (.bl true)))))
    (dRet (dC (.bl false)))
    dSkip)
    (dSeq (dSet 7 (dBin gIx (dVar 3) (dC (.int 0))))
    (dSeq (dIf (dTb (dBin gGt (dArgs sem__law_order (dCons (dBin gIx (dVar 4) (dC (.int 0))) (dCons (dVar 7) dNil))) (dC (.int 0))))
    (dSet 7 (dBin gIx (dVar 4) (dC (.int 0))))
    dSkip)
    (dSeq (dSet 8 (dBin gIx (dVar 3) (dC (.int 1))))
    (dSeq (dIf (dTb (dBin gLt (dArgs sem__law_order (dCons (dBin gIx (dVar 4) (dC (.int 1))) (dCons (dVar 8) dNil))) (dC (.int 0))))
    (dSet 8 (dBin gIx (dVar 4) (dC (.int 1))))
    dSkip)
    (dSeq (dIf (dTb (dBin gNe (dArgs sem_meet (dCons (dVar 3) (dCons (dVar 4) dNil))) (dArgs gTup (dCons (dVar 7) (dCons (dVar 8) dNil)))))
    (dRet (dC (.bl false)))
    dSkip)
    (dSeq (dSet 9 (dArgs gTup (dCons (dArgs gTup (dCons (dBin gAdd (dBin gIx (dBin gIx (dVar 3) (dC (.int 1))) (dC (.int 0))) (dBin gIx (dBin gIx (dVar 3) (dC (.int 1))) (dC (.int 1)))) (dCons (dBin gIx (dBin gIx (dVar 3) (dC (.int 1))) (dC (.int 1))) dNil))) (dCons (dArgs gTup (dCons (dBin gAdd (dBin gIx (dBin gIx (dVar 3) (dC (.int 1))) (dC (.int 0))) (dBin gMul (dC (.int 2)) (dBin gIx (dBin gIx (dVar 3) (dC (.int 1))) (dC (.int 1))))) (dCons (dBin gIx (dBin gIx (dVar 3) (dC (.int 1))) (dC (.int 1))) dNil))) dNil))))
    (dSeq (dIf (dOr (dTb (dBin gIsN (dArgs sem_meet (dCons (dVar 3) (dCons (dVar 9) dNil))) (dC .non))) (dTb (dBin gIsN (dArgs sem_meet (dCons (dVar 9) (dCons (dVar 3) dNil))) (dC .non))))
    (dRet (dC (.bl false)))
    dSkip)
    (dSeq (dIf (dOr (dTb (dBin gIsN (dArgs sem_is_range (dCons (dVar 3) dNil)) (dC (.bl true)))) (dTb (dBin gIsN (dArgs sem_is_range (dCons (dArgs gTup (dCons (dBin gIx (dVar 9) (dC (.int 1))) (dCons (dBin gIx (dVar 3) (dC (.int 0))) dNil))) dNil)) (dC (.bl false)))))
    (dRet (dC (.bl false)))
    dSkip)
    (dRet (dAndV (dBin gIs (dArgs sem_is_range (dCons (dArgs gLst (dCons (dBin gIx (dVar 3) (dC (.int 0))) (dCons (dBin gIx (dVar 3) (dC (.int 1))) dNil))) dNil)) (dC (.bl false))) (dAndV (dBin gIs (dArgs sem_is_range (dCons (dArgs gTup (dCons (dBin gIx (dVar 3) (dC (.int 0))) dNil)) dNil)) (dC (.bl false))) (dBin gIs (dArgs sem_is_range (dCons (dBin gIx (dVar 3) (dC (.int 0))) dNil)) (dC (.bl false))))))))))))))))))))))
noncomputable def sem__law_ranges : Sem' := semOf 10 body__law_ranges
theorem sc__law_ranges : FnScope ["a", "b", "c", "first", "second", "due", "told", "lo", "hi", "above"] ["a", "b", "c"] (defScope (topS 39)) := ⟨rfl, rfl, rfl, by decide +kernel, rfl, by decide +kernel, by decide +kernel⟩
theorem ok__law_ranges (T : Txt P w K mg base) : FnT P w K mg base 4 "_law_ranges" ["a", "b", "c"] sem__law_ranges := by
  have c__law_order := ok__law_order T
  have c_in_range := ok_in_range T
  have c_is_range := ok_is_range T
  have c_meet := ok_meet T
  have S := sc__law_ranges
  refine fnT_of 3 T.d__law_ranges S fun f cdv A outer s H E hr tk => ?_
  exact (dss_cons (ds_set (i := 3) S.nd rfl (Or.inl rfl) (de_tup (da_cons (dv 0) (da_cons (dv 1) da_nil))))
    (dss_cons (ds_if (dt_cmp op_gtD ne_Gt (de_callT c__law_order rfl hr (by decide) (by rfl) tk (da_cons (dv 0) (da_cons (dv 1) da_nil)) (argN_cons (argN_cons argN_nil))) de_int (nomark _))
    (dss_one (ds_set (i := 3) S.nd rfl (Or.inl rfl) (de_tup (da_cons (dv 1) (da_cons (dv 0) da_nil)))))
    dss_nil)
    (dss_cons (ds_set (i := 4) S.nd rfl (Or.inl rfl) (de_tup (da_cons (dv 1) (da_cons (dv 2) da_nil))))
    (dss_cons (ds_if (dt_cmp op_gtD ne_Gt (de_callT c__law_order rfl hr (by decide) (by rfl) tk (da_cons (dv 1) (da_cons (dv 2) da_nil)) (argN_cons (argN_cons argN_nil))) de_int (nomark _))
    (dss_one (ds_set (i := 4) S.nd rfl (Or.inl rfl) (de_tup (da_cons (dv 2) (da_cons (dv 1) da_nil)))))
    dss_nil)
    (dss_cons (ds_set (i := 5) S.nd rfl (Or.inl rfl) (de_and (de_cmp op_leD ne_Le (de_callT c__law_order rfl hr (by decide) (by rfl) tk (da_cons (de_ix ix_D ne_Ix (dv 3) de_int (fun _ _ => rfl)) (da_cons (dv 2) da_nil)) (argN_cons (argN_cons argN_nil))) de_int (nomark _)) (de_one (de_cmp op_leD ne_Le (de_callT c__law_order rfl hr (by decide) (by rfl) tk (da_cons (dv 2) (da_cons (de_ix ix_D ne_Ix (dv 3) de_int (fun _ _ => rfl)) da_nil)) (argN_cons (argN_cons argN_nil))) de_int (nomark _)))))
    (dss_cons (ds_set (i := 6) S.nd rfl (Or.inl rfl) (de_callT c_in_range rfl hr (by decide) (by rfl) tk (da_cons (dv 2) (da_cons (dv 3) da_nil)) (argN_cons (argN_cons argN_nil))))
    (dss_cons (ds_if (dt_w (dw_or (dt_w (dw_and (dt_cmp op_isND ne_IsN (dv 6) de_bl (nomark _)) (dw_and1 (dt_cmp op_isND ne_IsN (dv 6) de_bl (nomark _))))) (dw_or1 (dt_cmp (op_neA hr.units) ne_Ne (dv 6) (dv 5) (nomark _)))))
    (dss_one (ds_ret de_bl))
    dss_nil)
    (dss_cons (ds_if (dt_w (dw_or (dt_cmp op_isND ne_IsN (de_callT c_in_range rfl hr (by decide) (by rfl) tk (da_cons (de_ix ix_D ne_Ix (dv 3) de_int (fun _ _ => rfl)) (da_cons (dv 3) da_nil)) (argN_cons (argN_cons argN_nil))) de_bl (nomark _)) (dw_or1 (dt_cmp op_isND ne_IsN (de_callT c_in_range rfl hr (by decide) (by rfl) tk (da_cons (de_ix ix_D ne_Ix (dv 3) de_int (fun _ _ => rfl)) (da_cons (dv 3) da_nil)) (argN_cons (argN_cons argN_nil))) de_bl (nomark _)))))
    (dss_one (ds_ret de_bl))
    dss_nil)
    (dss_cons (ds_set (i := 7) S.nd rfl (Or.inl rfl) (de_ix ix_D ne_Ix (dv 3) de_int (fun _ _ => rfl)))
    (dss_cons (ds_if (dt_cmp op_gtD ne_Gt (de_callT c__law_order rfl hr (by decide) (by rfl) tk (da_cons (de_ix ix_D ne_Ix (dv 4) de_int (fun _ _ => rfl)) (da_cons (dv 7) da_nil)) (argN_cons (argN_cons argN_nil))) de_int (nomark _))
    (dss_one (ds_set (i := 7) S.nd rfl (Or.inl rfl) (de_ix ix_D ne_Ix (dv 4) de_int (fun _ _ => rfl))))
    dss_nil)
    (dss_cons (ds_set (i := 8) S.nd rfl (Or.inl rfl) (de_ix ix_D ne_Ix (dv 3) de_int (fun _ _ => rfl)))
    (dss_cons (ds_if (dt_cmp op_ltD ne_Lt (de_callT c__law_order rfl hr (by decide) (by rfl) tk (da_cons (de_ix ix_D ne_Ix (dv 4) de_int (fun _ _ => rfl)) (da_cons (dv 8) da_nil)) (argN_cons (argN_cons argN_nil))) de_int (nomark _))
    (dss_one (ds_set (i := 8) S.nd rfl (Or.inl rfl) (de_ix ix_D ne_Ix (dv 4) de_int (fun _ _ => rfl))))
    dss_nil)
    (dss_cons (ds_if (dt_cmp (op_neA hr.units) ne_Ne (de_callT c_meet rfl hr (by decide) (by rfl) tk (da_cons (dv 3) (da_cons (dv 4) da_nil)) (argN_cons (argN_cons argN_nil))) (de_tup (da_cons (dv 7) (da_cons (dv 8) da_nil))) (nomark _))
    (dss_one (ds_ret de_bl))
    dss_nil)
    (dss_cons (ds_set (i := 9) S.nd rfl (Or.inl rfl) (de_tup (da_cons (de_tup (da_cons (de_bin op_addD ne_Add (de_ix ix_D ne_Ix (de_ix ix_D ne_Ix (dv 3) de_int (fun _ _ => rfl)) de_int (fun _ _ => rfl)) (de_ix ix_D ne_Ix (de_ix ix_D ne_Ix (dv 3) de_int (fun _ _ => rfl)) de_int (fun _ _ => rfl))) (da_cons (de_ix ix_D ne_Ix (de_ix ix_D ne_Ix (dv 3) de_int (fun _ _ => rfl)) de_int (fun _ _ => rfl)) da_nil))) (da_cons (de_tup (da_cons (de_bin op_addD ne_Add (de_ix ix_D ne_Ix (de_ix ix_D ne_Ix (dv 3) de_int (fun _ _ => rfl)) de_int (fun _ _ => rfl)) (de_bin op_mulD ne_Mul de_int (de_ix ix_D ne_Ix (de_ix ix_D ne_Ix (dv 3) de_int (fun _ _ => rfl)) de_int (fun _ _ => rfl)))) (da_cons (de_ix ix_D ne_Ix (de_ix ix_D ne_Ix (dv 3) de_int (fun _ _ => rfl)) de_int (fun _ _ => rfl)) da_nil))) da_nil))))
    (dss_cons (ds_if (dt_w (dw_or (dt_cmp op_isND ne_IsN (de_callT c_meet rfl hr (by decide) (by rfl) tk (da_cons (dv 3) (da_cons (dv 9) da_nil)) (argN_cons (argN_cons argN_nil))) de_non (nomark _)) (dw_or1 (dt_cmp op_isND ne_IsN (de_callT c_meet rfl hr (by decide) (by rfl) tk (da_cons (dv 9) (da_cons (dv 3) da_nil)) (argN_cons (argN_cons argN_nil))) de_non (nomark _)))))
    (dss_one (ds_ret de_bl))
    dss_nil)
    (dss_cons (ds_if (dt_w (dw_or (dt_cmp op_isND ne_IsN (de_callT c_is_range rfl hr (by decide) (by rfl) tk (da_cons (dv 3) da_nil) (argN_cons argN_nil)) de_bl (nomark _)) (dw_or1 (dt_cmp op_isND ne_IsN (de_callT c_is_range rfl hr (by decide) (by rfl) tk (da_cons (de_tup (da_cons (de_ix ix_D ne_Ix (dv 9) de_int (fun _ _ => rfl)) (da_cons (de_ix ix_D ne_Ix (dv 3) de_int (fun _ _ => rfl)) da_nil))) da_nil) (argN_cons argN_nil)) de_bl (nomark _)))))
    (dss_one (ds_ret de_bl))
    dss_nil)
    (dss_one (ds_ret (de_and (de_cmp op_isD ne_Is (de_callT c_is_range rfl hr (by decide) (by rfl) tk (da_cons (de_lst (da_cons (de_ix ix_D ne_Ix (dv 3) de_int (fun _ _ => rfl)) (da_cons (de_ix ix_D ne_Ix (dv 3) de_int (fun _ _ => rfl)) da_nil))) da_nil) (argN_cons argN_nil)) de_bl (nomark _)) (de_and (de_cmp op_isD ne_Is (de_callT c_is_range rfl hr (by decide) (by rfl) tk (da_cons (de_tup (da_cons (de_ix ix_D ne_Ix (dv 3) de_int (fun _ _ => rfl)) da_nil)) da_nil) (argN_cons argN_nil)) de_bl (nomark _)) (de_one (de_cmp op_isD ne_Is (de_callT c_is_range rfl hr (by decide) (by rfl) tk (da_cons (de_ix ix_D ne_Ix (dv 3) de_int (fun _ _ => rfl)) da_nil) (argN_cons argN_nil)) de_bl (nomark _)))))))))))))))))))))))
noncomputable def body__law_kinds : DSt → DHp → SR :=
    (dSeq (dIf (dOr (dTb (dBin gIsN (dArgs sem_is_fraction (dCons (dVar 0) dNil)) (dC (.bl true)))) (dOr (dTb (dBin gIsN (dArgs sem_is_whole (dCons (dVar 1) dNil)) (dC (.bl true)))) (dTb (dBin gIsN (dArgs sem_is_fraction (dCons (dArgs gTup (dCons (dC (.int 0)) (dCons (dC (.int 1)) dNil))) dNil)) (dC (.bl true))))))
    (dRet (dC (.bl false)))
    dSkip)
    (dSeq (dFor (dIt (dArgs gLst (dCons (dArgs gTup (dCons (dBin gMul (dC (.int 2)) (dBin gIx (dVar 0) (dC (.int 0)))) (dCons (dBin gMul (dC (.int 2)) (dBin gIx (dVar 0) (dC (.int 1)))) dNil))) (dCons (dArgs gTup (dCons (dBin gIx (dVar 0) (dC (.int 0))) (dCons (dC (.int 0)) dNil))) (dCons (dArgs gTup (dCons (dBin gIx (dVar 0) (dC (.int 0))) (dCons (dUn gNeg (dBin gIx (dVar 0) (dC (.int 1)))) dNil))) (dCons (dArgs gLst (dCons (dBin gIx (dVar 0) (dC (.int 0))) (dCons (dBin gIx (dVar 0) (dC (.int 1))) dNil))) (dCons (dArgs gTup (dCons (dBin gIx (dVar 0) (dC (.int 0))) dNil)) (dCons (dBin gIx (dVar 0) (dC (.int 0))) (dCons (dArgs gTup (dCons (dC (.int 0)) (dCons (dC (.int 2)) dNil))) (dCons (dC .non) (dCons (dC (.str "1/2")) dNil))))))))))) (tgN 2)
    (dIf (dTb (dBin gIsN (dArgs sem_is_fraction (dCons (dVar 2) dNil)) (dC (.bl false))))
    (dRet (dC (.bl false)))
    dSkip))
    (dSeq (dFor (dIt (dArgs gLst (dCons (dArgs gTup (dCons (dC (.bl true)) (dCons (dC (.int 1)) dNil))) (dCons (dArgs gTup (dCons (dC (.int 1)) (dCons (dC (.bl true)) dNil))) (dCons (dArgs gTup (dCons (dBin gIx (dVar 0) (dC (.int 0))) (dCons (dBin gIx (dVar 0) (dC (.int 1))) (dCons (dC (.int 1)) dNil)))) (dCons (dArgs gTup (dCons (dArgs gStr (dCons (dBin gMod (dBin gIx (dVar 0) (dC (.int 1))) (dC (.int 1000))) dNil)) (dCons (dC (.int 1)) dNil))) dNil)))))) (tgN 2)
    (dIf (dTb (dBin gIsN (dArgs sem_is_fraction (dCons (dVar 2) dNil)) (dC (.bl false))))
    (dRet (dC (.bl false)))
    dSkip))
    (dSeq (dFor (dIt (dArgs gLst (dCons (dC (.bl true)) (dCons (dC (.bl false)) (dCons (dC .non) (dCons (dC (.str "5")) (dCons (dArgs gTup (dCons (dC (.int 5)) dNil)) (dCons (dArgs gLst (dCons (dC (.int 5)) dNil)) dNil)))))))) (tgN 2)
    (dIf (dTb (dBin gIsN (dArgs sem_is_whole (dCons (dVar 2) dNil)) (dC (.bl false))))
    (dRet (dC (.bl false)))
    dSkip))
    (dRet (dC (.bl true)))))))
noncomputable def sem__law_kinds : Sem' := semOf 3 body__law_kinds
theorem sc__law_kinds : FnScope ["a", "p", "near"] ["a", "p"] (defScope (topS 40)) := ⟨rfl, rfl, rfl, by decide +kernel, rfl, by decide +kernel, by decide +kernel⟩
theorem ok__law_kinds (T : Txt P w K mg base) : FnT P w K mg base 3 "_law_kinds" ["a", "p"] sem__law_kinds := by
  have c_is_fraction := ok_is_fraction T
  have c_is_whole := ok_is_whole T
  have S := sc__law_kinds
  refine fnT_of 2 T.d__law_kinds S fun f cdv A outer s H E hr tk => ?_
  exact (dss_cons (ds_if (dt_w (dw_or (dt_cmp op_isND ne_IsN (de_callT c_is_fraction rfl hr (by decide) (by rfl) tk (da_cons (dv 0) da_nil) (argN_cons argN_nil)) de_bl (nomark _)) (dw_or (dt_cmp op_isND ne_IsN (de_callT c_is_whole rfl hr (by decide) (by rfl) tk (da_cons (dv 1) da_nil) (argN_cons argN_nil)) de_bl (nomark _)) (dw_or1 (dt_cmp op_isND ne_IsN (de_callT c_is_fraction rfl hr (by decide) (by rfl) tk (da_cons (de_tup (da_cons de_int (da_cons de_int da_nil))) da_nil) (argN_cons argN_nil)) de_bl (nomark _))))))
    (dss_one (ds_ret de_bl))
    dss_nil)
    (dss_cons (ds_for (passes_of rfl) rfl (di_it (de_lst (da_cons (de_tup (da_cons (de_bin op_mulD ne_Mul de_int (de_ix ix_D ne_Ix (dv 0) de_int (fun _ _ => rfl))) (da_cons (de_bin op_mulD ne_Mul de_int (de_ix ix_D ne_Ix (dv 0) de_int (fun _ _ => rfl))) da_nil))) (da_cons (de_tup (da_cons (de_ix ix_D ne_Ix (dv 0) de_int (fun _ _ => rfl)) (da_cons de_int da_nil))) (da_cons (de_tup (da_cons (de_ix ix_D ne_Ix (dv 0) de_int (fun _ _ => rfl)) (da_cons (de_un un_negD ne_Neg (de_ix ix_D ne_Ix (dv 0) de_int (fun _ _ => rfl))) da_nil))) (da_cons (de_lst (da_cons (de_ix ix_D ne_Ix (dv 0) de_int (fun _ _ => rfl)) (da_cons (de_ix ix_D ne_Ix (dv 0) de_int (fun _ _ => rfl)) da_nil))) (da_cons (de_tup (da_cons (de_ix ix_D ne_Ix (dv 0) de_int (fun _ _ => rfl)) da_nil)) (da_cons (de_ix ix_D ne_Ix (dv 0) de_int (fun _ _ => rfl)) (da_cons (de_tup (da_cons de_int (da_cons de_int da_nil))) (da_cons de_non (da_cons (de_str) da_nil))))))))))) (dg_name (i := 2) S.nd rfl (Or.inl rfl))
    (dss_one (ds_if (dt_cmp op_isND ne_IsN (de_callT c_is_fraction rfl hr (by decide) (by rfl) tk (da_cons (dv 2) da_nil) (argN_cons argN_nil)) de_bl (nomark _))
    (dss_one (ds_ret de_bl))
    dss_nil)))
    (dss_cons (ds_for (passes_of rfl) rfl (di_it (de_lst (da_cons (de_tup (da_cons de_bl (da_cons de_int da_nil))) (da_cons (de_tup (da_cons de_int (da_cons de_bl da_nil))) (da_cons (de_tup (da_cons (de_ix ix_D ne_Ix (dv 0) de_int (fun _ _ => rfl)) (da_cons (de_ix ix_D ne_Ix (dv 0) de_int (fun _ _ => rfl)) (da_cons de_int da_nil)))) (da_cons (de_tup (da_cons (de_callTy cr_str ne_Str (by rfl) T.b_str bo_str (da_cons (de_bin op_modD ne_Mod (de_ix ix_D ne_Ix (dv 0) de_int (fun _ _ => rfl)) de_int) da_nil)) (da_cons de_int da_nil))) da_nil)))))) (dg_name (i := 2) S.nd rfl (Or.inl rfl))
    (dss_one (ds_if (dt_cmp op_isND ne_IsN (de_callT c_is_fraction rfl hr (by decide) (by rfl) tk (da_cons (dv 2) da_nil) (argN_cons argN_nil)) de_bl (nomark _))
    (dss_one (ds_ret de_bl))
    dss_nil)))
    (dss_cons (ds_for (passes_of rfl) rfl (di_it (de_lst (da_cons de_bl (da_cons de_bl (da_cons de_non (da_cons (de_str) (da_cons (de_tup (da_cons de_int da_nil)) (da_cons (de_lst (da_cons de_int da_nil)) da_nil)))))))) (dg_name (i := 2) S.nd rfl (Or.inl rfl))
    (dss_one (ds_if (dt_cmp op_isND ne_IsN (de_callT c_is_whole rfl hr (by decide) (by rfl) tk (da_cons (dv 2) da_nil) (argN_cons argN_nil)) de_bl (nomark _))
    (dss_one (ds_ret de_bl))
    dss_nil)))
    (dss_one (ds_ret de_bl))))))
noncomputable def body__law_gcd : DSt → DHp → SR :=
    (dSeq (dSet 0 (dArgs gAbs (dCons (dVar 0) dNil)))
    (dSeq (dSet 1 (dArgs gAbs (dCons (dVar 1) dNil)))
    (dSeq (dFor (dItA gRng1 (dCons (dC (.int 3000)) dNil)) (tgN 2)
    (dSeq (dIf (dTb (dBin gEq (dVar 1) (dC (.int 0))))
    dBrk
    dSkip)
    (dPar 0 1 (dCons (dVar 1) (dCons (dBin gMod (dArgs gInt (dCons (dVar 0) dNil)) (dVar 1)) dNil)))))
    (dRet (dVar 0)))))
noncomputable def sem__law_gcd : Sem' := semOf 3 body__law_gcd
theorem sc__law_gcd : FnScope ["a", "b", "_"] ["a", "b"] (defScope (topS 28)) := ⟨rfl, rfl, rfl, by decide +kernel, rfl, by decide +kernel, by decide +kernel⟩
theorem ok__law_gcd (T : Txt P w K mg base) : FnT P w K mg base 1 "_law_gcd" ["a", "b"] sem__law_gcd := by
  have S := sc__law_gcd
  refine fnT_of 0 T.d__law_gcd S fun f cdv A outer s H E hr tk => ?_
  exact (dss_cons (ds_set (i := 0) S.nd rfl (Or.inl rfl) (de_callB cr_abs ne_Abs (by rfl) T.b_abs bo_abs (da_cons (dv 0) da_nil)))
    (dss_cons (ds_set (i := 1) S.nd rfl (Or.inl rfl) (de_callB cr_abs ne_Abs (by rfl) T.b_abs bo_abs (da_cons (dv 1) da_nil)))
    (dss_cons (ds_for (passes_of rfl) rfl (di_rng1 (by rfl) T.b_range (da_cons de_int da_nil)) (dg_name (i := 2) S.nd rfl (Or.inl rfl))
    (dss_cons (ds_if (dt_cmp (op_eqA hr.units) ne_Eq (dv 1) de_int (nomark _))
    (dss_one ds_brk)
    dss_nil)
    (dss_one (ds_par (i := 0) (j := 1) rfl S.nd rfl rfl (by decide) rfl rfl (da_cons (dv 1) (da_cons (de_bin op_modD ne_Mod (de_callTy cr_int ne_Int (by rfl) T.b_int bo_int (da_cons (dv 0) da_nil)) (dv 1)) da_nil)) (by rfl)))))
    (dss_one (ds_ret (dv 0))))))
noncomputable def body__law_lowest : DSt → DHp → SR :=
    (dSeq (dSet 2 (dArgs sem__law_gcd (dCons (dVar 0) (dCons (dVar 1) dNil))))
    (dSeq (dIf (dTb (dBin gLt (dVar 1) (dC (.int 0))))
    (dSet 2 (dUn gNeg (dVar 2)))
    dSkip)
    (dRet (dArgs gTup (dCons (dBin gFdiv (dVar 0) (dVar 2)) (dCons (dBin gFdiv (dVar 1) (dVar 2)) dNil))))))
noncomputable def sem__law_lowest : Sem' := semOf 3 body__law_lowest
theorem sc__law_lowest : FnScope ["p", "q", "shared"] ["p", "q"] (defScope (topS 29)) := ⟨rfl, rfl, rfl, by decide +kernel, rfl, by decide +kernel, by decide +kernel⟩
theorem ok__law_lowest (T : Txt P w K mg base) : FnT P w K mg base 2 "_law_lowest" ["p", "q"] sem__law_lowest := by
  have c__law_gcd := ok__law_gcd T
  have S := sc__law_lowest
  refine fnT_of 1 T.d__law_lowest S fun f cdv A outer s H E hr tk => ?_
  exact (dss_cons (ds_set (i := 2) S.nd rfl (Or.inl rfl) (de_callT c__law_gcd rfl hr (by decide) (by rfl) tk (da_cons (dv 0) (da_cons (dv 1) da_nil)) (argN_cons (argN_cons argN_nil))))
    (dss_cons (ds_if (dt_cmp op_ltD ne_Lt (dv 1) de_int (nomark _))
    (dss_one (ds_set (i := 2) S.nd rfl (Or.inl rfl) (de_un un_negD ne_Neg (dv 2))))
    dss_nil)
    (dss_one (ds_ret (de_tup (da_cons (de_bin op_fdivD ne_Fdiv (dv 0) (dv 2)) (da_cons (de_bin op_fdivD ne_Fdiv (dv 1) (dv 2)) da_nil)))))))
noncomputable def body__law_is_fraction : DSt → DHp → SR :=
    (dSeq (dIf (dOr (dNot (dTru (dArgs gIsi (dCons (dVar 0) (dCons (dC (.ty "tuple")) dNil))))) (dTb (dBin gNe (dArgs gLen (dCons (dVar 0) dNil)) (dC (.int 2)))))
    (dRet (dC (.bl false)))
    dSkip)
    (dSeq (dIf (dOr (dNot (dTru (dArgs sem__law_is_whole (dCons (dBin gIx (dVar 0) (dC (.int 0))) dNil)))) (dNot (dTru (dArgs sem__law_is_whole (dCons (dBin gIx (dVar 0) (dC (.int 1))) dNil)))))
    (dRet (dC (.bl false)))
    dSkip)
    (dRet (dAndV (dBin gGt (dBin gIx (dVar 0) (dC (.int 1))) (dC (.int 0))) (dBin gEq (dArgs sem__law_gcd (dCons (dBin gIx (dVar 0) (dC (.int 0))) (dCons (dBin gIx (dVar 0) (dC (.int 1))) dNil))) (dC (.int 1)))))))
noncomputable def sem__law_is_fraction : Sem' := semOf 1 body__law_is_fraction
theorem sc__law_is_fraction : FnScope ["value"] ["value"] (defScope (topS 31)) := ⟨rfl, rfl, rfl, by decide +kernel, rfl, by decide +kernel, by decide +kernel⟩
theorem ok__law_is_fraction (T : Txt P w K mg base) : FnT P w K mg base 2 "_law_is_fraction" ["value"] sem__law_is_fraction := by
  have c__law_gcd := ok__law_gcd T
  have c__law_is_whole := ok__law_is_whole T
  have S := sc__law_is_fraction
  refine fnT_of 1 T.d__law_is_fraction S fun f cdv A outer s H E hr tk => ?_
  exact (dss_cons (ds_if (dt_w (dw_or (dt_not (dt_tru (de_callB cr_isi ne_Isi (by rfl) T.b_isinstance bo_isinstance (da_cons (dv 0) (da_cons (de_ty (by rfl) T.b_tuple bo_tuple) da_nil))))) (dw_or1 (dt_cmp (op_neA hr.units) ne_Ne (de_callB cr_len ne_Len (by rfl) T.b_len bo_len (da_cons (dv 0) da_nil)) de_int (nomark _)))))
    (dss_one (ds_ret de_bl))
    dss_nil)
    (dss_cons (ds_if (dt_w (dw_or (dt_not (dt_tru (de_callT c__law_is_whole rfl hr (by decide) (by rfl) tk (da_cons (de_ix ix_D ne_Ix (dv 0) de_int (fun _ _ => rfl)) da_nil) (argN_cons argN_nil)))) (dw_or1 (dt_not (dt_tru (de_callT c__law_is_whole rfl hr (by decide) (by rfl) tk (da_cons (de_ix ix_D ne_Ix (dv 0) de_int (fun _ _ => rfl)) da_nil) (argN_cons argN_nil)))))))
    (dss_one (ds_ret de_bl))
    dss_nil)
    (dss_one (ds_ret (de_and (de_cmp op_gtD ne_Gt (de_ix ix_D ne_Ix (dv 0) de_int (fun _ _ => rfl)) de_int (nomark _)) (de_one (de_cmp (op_eqA hr.units) ne_Eq (de_callT c__law_gcd rfl hr (by decide) (by rfl) tk (da_cons (de_ix ix_D ne_Ix (dv 0) de_int (fun _ _ => rfl)) (da_cons (de_ix ix_D ne_Ix (dv 0) de_int (fun _ _ => rfl)) da_nil)) (argN_cons (argN_cons argN_nil))) de_int (nomark _))))))))
noncomputable def body_over : DSt → DHp → SR :=
    (dSeq (dIf (dTb (dBin gEq (dBin gIx (dVar 1) (dC (.int 0))) (dC (.int 0))))
    (dRaise "ZeroDenominator" ["number"] (dCons (dBin gIx (dVar 0) (dC (.int 0))) dNil))
    dSkip)
    (dRet (dArgs sem_fraction (dCons (dBin gMul (dBin gIx (dVar 0) (dC (.int 0))) (dBin gIx (dVar 1) (dC (.int 1)))) (dCons (dBin gMul (dBin gIx (dVar 0) (dC (.int 1))) (dBin gIx (dVar 1) (dC (.int 0)))) dNil)))))
noncomputable def sem_over : Sem' := semOf 2 body_over
theorem sc_over : FnScope ["a", "b"] ["a", "b"] (defScope (topS 15)) := ⟨rfl, rfl, rfl, by decide +kernel, rfl, by decide +kernel, by decide +kernel⟩
theorem ok_over (T : Txt P w K mg base) : FnT P w K mg base 4 "over" ["a", "b"] sem_over := by
  have c_fraction := ok_fraction T
  have S := sc_over
  refine fnT_of 3 T.d_over S fun f cdv A outer s H E hr tk => ?_
  exact (dss_cons (ds_if (dt_cmp (op_eqA hr.units) ne_Eq (de_ix ix_D ne_Ix (dv 1) de_int (fun _ _ => rfl)) de_int (nomark _))
    (dss_one (ds_raise rfl T.e_ZeroDenominator T.i_ZeroDenominator (hr.mono (by decide)) tk (by rfl) (da_cons (de_ix ix_D ne_Ix (dv 0) de_int (fun _ _ => rfl)) da_nil)))
    dss_nil)
    (dss_one (ds_ret (de_callT c_fraction rfl hr (by decide) (by rfl) tk (da_cons (de_bin op_mulD ne_Mul (de_ix ix_D ne_Ix (dv 0) de_int (fun _ _ => rfl)) (de_ix ix_D ne_Ix (dv 1) de_int (fun _ _ => rfl))) (da_cons (de_bin op_mulD ne_Mul (de_ix ix_D ne_Ix (dv 0) de_int (fun _ _ => rfl)) (de_ix ix_D ne_Ix (dv 1) de_int (fun _ _ => rfl))) da_nil)) (argN_cons (argN_cons argN_nil))))))
noncomputable def body__law_zero : DSt → DHp → SR :=
    (dSeq (dTry [("ZeroDenominator", true)] 2
    (dSeq (dDrop (dArgs sem_fraction (dCons (dVar 0) (dCons (dC (.int 0)) dNil))))
    (dRet (dC (.bl false))))
    (fun e => (dIf (dOr (dNot (dTru (dArgs (noX sem__law_is_whole) (dCons (dXf e ["ZeroDenominator"] "number") dNil)))) (dOr (dTb (dBin gNe (dXf e ["ZeroDenominator"] "number") (dVar 0))) (dOr (dTru (dIsE e [("ZeroDenominator", false)])) (dTru (dIsE e [("ZeroDenominator", false)])))))
    (dRet (dC (.bl false)))
    dSkip)))
    (dTry [("ZeroDenominator", true)] 2
    (dSeq (dDrop (dArgs sem_over (dCons (dVar 1) (dCons (dArgs gTup (dCons (dC (.int 0)) (dCons (dC (.int 1)) dNil))) dNil))))
    (dRet (dC (.bl false))))
    (fun e => (dRet (dAndV (dIsE e [("ZeroDenominator", true)]) (dAndV (dIsE e [("ZeroDenominator", true)]) (dBin gEq (dXf e ["ZeroDenominator"] "number") (dBin gIx (dVar 1) (dC (.int 0))))))))))
noncomputable def sem__law_zero : Sem' := semOf 3 body__law_zero
theorem sc__law_zero : FnScope ["p", "a", "e"] ["p", "a"] (defScope (topS 36)) := ⟨rfl, rfl, rfl, by decide +kernel, rfl, by decide +kernel, by decide +kernel⟩
theorem ok__law_zero (T : Txt P w K mg base) : FnT P w K mg base 5 "_law_zero" ["p", "a"] sem__law_zero := by
  have c__law_is_whole := ok__law_is_whole T
  have c_fraction := ok_fraction T
  have c_over := ok_over T
  have h__law_is_whole := okh__law_is_whole T
  have S := sc__law_zero
  refine fnT_of 4 T.d__law_zero S fun f cdv A outer s H E hr tk => ?_
  exact (dss_cons (ds_try rfl rfl S.nd (i := 2) rfl rfl ⟨by rfl, by decide, .inl T.g_ZeroDenominator⟩ tk (fun _ _ _ => trivial) (by exact T.xm_ZeroDenominator)
    (fun W1 pn1 xe1 tk1 po1 => (dss_cons (ds_expr (de_callT c_fraction rfl hr (by decide) (by rfl) tk1 (da_cons (dv 0) (da_cons de_int da_nil)) (argN_cons (argN_cons argN_nil))))
    (dss_one (ds_ret de_bl))))
    (fun a1 oe1 cls1 d1 pn1 e hz hf => (dss_one (ds_if (dt_w (dw_or (dt_not (dt_tru (de_callTH h__law_is_whole rfl (L2H.roomH_mark hr _) (by decide) (hotC_suite hz hf) (by rfl) (da_cons (de_xf hz hf rfl (Or.inl rfl) (by exact T.xf_number_ZeroDenominator)) da_nil) (argN_cons argN_nil)))) (dw_or (dt_cmp (op_neA hr.units) ne_Ne (de_xf hz hf rfl (Or.inl rfl) (by exact T.xf_number_ZeroDenominator)) (dv 0) (nomark _)) (dw_or (dt_tru (de_isE hz hf T.hn T.ht rfl (Or.inl rfl) (pe_glob (by rfl) T.g_TooLarge (v := .ref (ctOf mg "TooLarge")) rfl) (fun u r => r) (by exact T.kt_TooLarge) (by rfl) T.b_isinstance)) (dw_or1 (dt_tru (de_isE hz hf T.hn T.ht rfl (Or.inl rfl) (pe_glob (by rfl) T.g_BadCount (v := .ref (ctOf mg "BadCount")) rfl) (fun u r => r) (by exact T.kt_BadCount) (by rfl) T.b_isinstance)))))))
    (dss_one (ds_ret de_bl))
    dss_nil))))
    (dss_one (ds_try rfl rfl S.nd (i := 2) rfl rfl ⟨by rfl, by decide, .inl T.g_MillError⟩ tk (fun _ _ _ => trivial) (by exact T.xm_MillError)
    (fun W1 pn1 xe1 tk1 po1 => (dss_cons (ds_expr (de_callT c_over rfl hr (by decide) (by rfl) tk1 (da_cons (dv 1) (da_cons (de_tup (da_cons de_int (da_cons de_int da_nil))) da_nil)) (argN_cons (argN_cons argN_nil))))
    (dss_one (ds_ret de_bl))))
    (fun a1 oe1 cls1 d1 pn1 e hz hf => (dss_one (ds_ret (de_and (de_isE hz hf T.hn T.ht rfl (Or.inl rfl) (pe_glob (by rfl) T.g_ZeroDenominator (v := .ref (ctOf mg "ZeroDenominator")) rfl) (fun u r => r) (by exact T.kt_ZeroDenominator) (by rfl) T.b_isinstance) (de_and (de_isE hz hf T.hn T.ht rfl (Or.inl rfl) (pe_bltn (by rfl) T.b_ValueError bo_ValueError (v := .ty "ValueError") rfl) (fun u r => r) (by exact T.kt_ValueError) (by rfl) T.b_isinstance) (de_one (de_cmp (op_eqA hr.units) ne_Eq (de_xf hz hf rfl (Or.inl rfl) (by exact T.xf_number_ZeroDenominator)) (de_ix ix_D ne_Ix (dv 1) de_int (fun _ _ => rfl)) (nomark _)))))))))))
noncomputable def body_common : DSt → DHp → SR :=
    (dSeq (dSet 1 (dC (.int 1)))
    (dSeq (dFor (dIt (dVar 0)) (tgN 2)
    (dSet 1 (dArgs gLcm (dCons (dVar 1) (dCons (dBin gIx (dVar 2) (dC (.int 1))) dNil)))))
    (dRet (dVar 1))))
noncomputable def sem_common : Sem' := semOf 3 body_common
theorem sc_common : FnScope ["values", "result", "value"] ["values"] (defScope (topS 22)) := ⟨rfl, rfl, rfl, by decide +kernel, rfl, by decide +kernel, by decide +kernel⟩
theorem ok_common (T : Txt P w K mg base) : FnT P w K mg base 1 "common" ["values"] sem_common := by
  have S := sc_common
  refine fnT_of 0 T.d_common S fun f cdv A outer s H E hr tk => ?_
  exact (dss_cons (ds_set (i := 1) S.nd rfl (Or.inl rfl) de_int)
    (dss_cons (ds_for (passes_of rfl) rfl (di_it (dv 0)) (dg_name (i := 2) S.nd rfl (Or.inl rfl))
    (dss_one (ds_set (i := 1) S.nd rfl (Or.inl rfl) (de_callM cr_lcmD ne_Lcm (by rfl) T.b_lcm (da_cons (dv 1) (da_cons (de_ix ix_D ne_Ix (dv 2) de_int (fun _ _ => rfl)) da_nil))))))
    (dss_one (ds_ret (dv 1)))))
noncomputable def body__law_is : DSt → DHp → SR :=
    (dRet (dAndV (dArgs sem__law_is_fraction (dCons (dVar 0) dNil)) (dBin gEq (dBin gMul (dBin gIx (dVar 0) (dC (.int 0))) (dVar 2)) (dBin gMul (dVar 1) (dBin gIx (dVar 0) (dC (.int 1)))))))
noncomputable def sem__law_is : Sem' := semOf 3 body__law_is
theorem sc__law_is : FnScope ["value", "p", "q"] ["value", "p", "q"] (defScope (topS 34)) := ⟨rfl, rfl, rfl, by decide +kernel, rfl, by decide +kernel, by decide +kernel⟩
theorem ok__law_is (T : Txt P w K mg base) : FnT P w K mg base 3 "_law_is" ["value", "p", "q"] sem__law_is := by
  have c__law_is_fraction := ok__law_is_fraction T
  have S := sc__law_is
  refine fnT_of 2 T.d__law_is S fun f cdv A outer s H E hr tk => ?_
  exact (dss_one (ds_ret (de_and (de_callT c__law_is_fraction rfl hr (by decide) (by rfl) tk (da_cons (dv 0) da_nil) (argN_cons argN_nil)) (de_one (de_cmp (op_eqA hr.units) ne_Eq (de_bin op_mulD ne_Mul (de_ix ix_D ne_Ix (dv 0) de_int (fun _ _ => rfl)) (dv 2)) (de_bin op_mulD ne_Mul (dv 1) (de_ix ix_D ne_Ix (dv 0) de_int (fun _ _ => rfl))) (nomark _))))))
noncomputable def body_plus : DSt → DHp → SR :=
    (dRet (dArgs sem_fraction (dCons (dBin gAdd (dBin gMul (dBin gIx (dVar 0) (dC (.int 0))) (dBin gIx (dVar 1) (dC (.int 1)))) (dBin gMul (dBin gIx (dVar 1) (dC (.int 0))) (dBin gIx (dVar 0) (dC (.int 1))))) (dCons (dBin gMul (dBin gIx (dVar 0) (dC (.int 1))) (dBin gIx (dVar 1) (dC (.int 1)))) dNil))))
noncomputable def sem_plus : Sem' := semOf 2 body_plus
theorem sc_plus : FnScope ["a", "b"] ["a", "b"] (defScope (topS 12)) := ⟨rfl, rfl, rfl, by decide +kernel, rfl, by decide +kernel, by decide +kernel⟩
theorem ok_plus (T : Txt P w K mg base) : FnT P w K mg base 4 "plus" ["a", "b"] sem_plus := by
  have c_fraction := ok_fraction T
  have S := sc_plus
  refine fnT_of 3 T.d_plus S fun f cdv A outer s H E hr tk => ?_
  exact (dss_one (ds_ret (de_callT c_fraction rfl hr (by decide) (by rfl) tk (da_cons (de_bin op_addD ne_Add (de_bin op_mulD ne_Mul (de_ix ix_D ne_Ix (dv 0) de_int (fun _ _ => rfl)) (de_ix ix_D ne_Ix (dv 1) de_int (fun _ _ => rfl))) (de_bin op_mulD ne_Mul (de_ix ix_D ne_Ix (dv 1) de_int (fun _ _ => rfl)) (de_ix ix_D ne_Ix (dv 0) de_int (fun _ _ => rfl)))) (da_cons (de_bin op_mulD ne_Mul (de_ix ix_D ne_Ix (dv 0) de_int (fun _ _ => rfl)) (de_ix ix_D ne_Ix (dv 1) de_int (fun _ _ => rfl))) da_nil)) (argN_cons (argN_cons argN_nil)))))
noncomputable def body_minus : DSt → DHp → SR :=
    (dRet (dArgs sem_fraction (dCons (dBin gSub (dBin gMul (dBin gIx (dVar 0) (dC (.int 0))) (dBin gIx (dVar 1) (dC (.int 1)))) (dBin gMul (dBin gIx (dVar 1) (dC (.int 0))) (dBin gIx (dVar 0) (dC (.int 1))))) (dCons (dBin gMul (dBin gIx (dVar 0) (dC (.int 1))) (dBin gIx (dVar 1) (dC (.int 1)))) dNil))))
noncomputable def sem_minus : Sem' := semOf 2 body_minus
theorem sc_minus : FnScope ["a", "b"] ["a", "b"] (defScope (topS 13)) := ⟨rfl, rfl, rfl, by decide +kernel, rfl, by decide +kernel, by decide +kernel⟩
theorem ok_minus (T : Txt P w K mg base) : FnT P w K mg base 4 "minus" ["a", "b"] sem_minus := by
  have c_fraction := ok_fraction T
  have S := sc_minus
  refine fnT_of 3 T.d_minus S fun f cdv A outer s H E hr tk => ?_
  exact (dss_one (ds_ret (de_callT c_fraction rfl hr (by decide) (by rfl) tk (da_cons (de_bin op_subD ne_Sub (de_bin op_mulD ne_Mul (de_ix ix_D ne_Ix (dv 0) de_int (fun _ _ => rfl)) (de_ix ix_D ne_Ix (dv 1) de_int (fun _ _ => rfl))) (de_bin op_mulD ne_Mul (de_ix ix_D ne_Ix (dv 1) de_int (fun _ _ => rfl)) (de_ix ix_D ne_Ix (dv 0) de_int (fun _ _ => rfl)))) (da_cons (de_bin op_mulD ne_Mul (de_ix ix_D ne_Ix (dv 0) de_int (fun _ _ => rfl)) (de_ix ix_D ne_Ix (dv 1) de_int (fun _ _ => rfl))) da_nil)) (argN_cons (argN_cons argN_nil)))))
noncomputable def body_times : DSt → DHp → SR :=
    (dRet (dArgs sem_fraction (dCons (dBin gMul (dBin gIx (dVar 0) (dC (.int 0))) (dBin gIx (dVar 1) (dC (.int 0)))) (dCons (dBin gMul (dBin gIx (dVar 0) (dC (.int 1))) (dBin gIx (dVar 1) (dC (.int 1)))) dNil))))
noncomputable def sem_times : Sem' := semOf 2 body_times
theorem sc_times : FnScope ["a", "b"] ["a", "b"] (defScope (topS 14)) := ⟨rfl, rfl, rfl, by decide +kernel, rfl, by decide +kernel, by decide +kernel⟩
theorem ok_times (T : Txt P w K mg base) : FnT P w K mg base 4 "times" ["a", "b"] sem_times := by
  have c_fraction := ok_fraction T
  have S := sc_times
  refine fnT_of 3 T.d_times S fun f cdv A outer s H E hr tk => ?_
  exact (dss_one (ds_ret (de_callT c_fraction rfl hr (by decide) (by rfl) tk (da_cons (de_bin op_mulD ne_Mul (de_ix ix_D ne_Ix (dv 0) de_int (fun _ _ => rfl)) (de_ix ix_D ne_Ix (dv 1) de_int (fun _ _ => rfl))) (da_cons (de_bin op_mulD ne_Mul (de_ix ix_D ne_Ix (dv 0) de_int (fun _ _ => rfl)) (de_ix ix_D ne_Ix (dv 1) de_int (fun _ _ => rfl))) da_nil)) (argN_cons (argN_cons argN_nil)))))
noncomputable def body_total : DSt → DHp → SR :=
    (dSeq (dSet 1 (dC k_ZERO))
    (dSeq (dFor (dIt (dVar 0)) (tgN 2)
    (dSet 1 (dArgs sem_plus (dCons (dVar 1) (dCons (dVar 2) dNil)))))
    (dRet (dVar 1))))
noncomputable def sem_total : Sem' := semOf 3 body_total
theorem sc_total : FnScope ["values", "result", "value"] ["values"] (defScope (topS 19)) := ⟨rfl, rfl, rfl, by decide +kernel, rfl, by decide +kernel, by decide +kernel⟩
theorem ok_total (T : Txt P w K mg base) : FnT P w K mg base 5 "total" ["values"] sem_total := by
  have c_plus := ok_plus T
  have S := sc_total
  refine fnT_of 4 T.d_total S fun f cdv A outer s H E hr tk => ?_
  exact (dss_cons (ds_set (i := 1) S.nd rfl (Or.inl rfl) (de_glob T.k_ZERO (by rfl)))
    (dss_cons (ds_for (passes_of rfl) rfl (di_it (dv 0)) (dg_name (i := 2) S.nd rfl (Or.inl rfl))
    (dss_one (ds_set (i := 1) S.nd rfl (Or.inl rfl) (de_callT c_plus rfl hr (by decide) (by rfl) tk (da_cons (dv 1) (da_cons (dv 2) da_nil)) (argN_cons (argN_cons argN_nil))))))
    (dss_one (ds_ret (dv 1)))))
noncomputable def body__law_sums : DSt → DHp → SR :=
    (dSeq (dIf (dNot (dTru (dArgs sem__law_is (dCons (dArgs sem_plus (dCons (dVar 0) (dCons (dVar 1) dNil))) (dCons (dBin gAdd (dBin gMul (dBin gIx (dVar 0) (dC (.int 0))) (dBin gIx (dVar 1) (dC (.int 1)))) (dBin gMul (dBin gIx (dVar 1) (dC (.int 0))) (dBin gIx (dVar 0) (dC (.int 1))))) (dCons (dBin gMul (dBin gIx (dVar 0) (dC (.int 1))) (dBin gIx (dVar 1) (dC (.int 1)))) dNil))))))
    (dRet (dC (.bl false)))
    dSkip)
    (dSeq (dIf (dNot (dTru (dArgs sem__law_is (dCons (dArgs sem_minus (dCons (dVar 0) (dCons (dVar 1) dNil))) (dCons (dBin gSub (dBin gMul (dBin gIx (dVar 0) (dC (.int 0))) (dBin gIx (dVar 1) (dC (.int 1)))) (dBin gMul (dBin gIx (dVar 1) (dC (.int 0))) (dBin gIx (dVar 0) (dC (.int 1))))) (dCons (dBin gMul (dBin gIx (dVar 0) (dC (.int 1))) (dBin gIx (dVar 1) (dC (.int 1)))) dNil))))))
    (dRet (dC (.bl false)))
    dSkip)
    (dSeq (dIf (dNot (dTru (dArgs sem__law_is (dCons (dArgs sem_times (dCons (dVar 0) (dCons (dVar 1) dNil))) (dCons (dBin gMul (dBin gIx (dVar 0) (dC (.int 0))) (dBin gIx (dVar 1) (dC (.int 0)))) (dCons (dBin gMul (dBin gIx (dVar 0) (dC (.int 1))) (dBin gIx (dVar 1) (dC (.int 1)))) dNil))))))
    (dRet (dC (.bl false)))
    dSkip)
    (dSeq (dIf (dAnd (dTb (dBin gNe (dBin gIx (dVar 1) (dC (.int 0))) (dC (.int 0)))) (dNot (dTru (dArgs sem__law_is (dCons (dArgs sem_over (dCons (dVar 0) (dCons (dVar 1) dNil))) (dCons (dBin gMul (dBin gIx (dVar 0) (dC (.int 0))) (dBin gIx (dVar 1) (dC (.int 1)))) (dCons (dBin gMul (dBin gIx (dVar 0) (dC (.int 1))) (dBin gIx (dVar 1) (dC (.int 0)))) dNil)))))))
    (dRet (dC (.bl false)))
    dSkip)
    (dSeq (dSet 4 (dSl gSlc (dArgs gLst (dCons (dVar 0) (dCons (dVar 1) (dCons (dVar 2) dNil)))) dNoPart (dPart (dArgs sem__law_take (dCons (dVar 3) (dCons (dC (.int 4)) dNil))))))
    (dSeq (dSet 5 (dC (.int 0)))
    (dSeq (dSet 6 (dC (.int 1)))
    (dSeq (dSet 7 (dC (.int 1)))
    (dSeq (dFor (dIt (dVar 4)) (tgN 8)
    (dSeq (dSet 5 (dBin gAdd (dBin gMul (dVar 5) (dBin gIx (dVar 8) (dC (.int 1)))) (dBin gMul (dBin gIx (dVar 8) (dC (.int 0))) (dVar 6))))
    (dSeq (dSet 6 (dBin gMul (dVar 6) (dBin gIx (dVar 8) (dC (.int 1)))))
    (dSet 7 (dBin gFdiv (dBin gMul (dVar 7) (dBin gIx (dVar 8) (dC (.int 1)))) (dArgs sem__law_gcd (dCons (dVar 7) (dCons (dBin gIx (dVar 8) (dC (.int 1))) dNil))))))))
    (dSeq (dSet 9 (dArgs gList (dCons (dVar 4) dNil)))
    (dSeq (dIf (dOr (dNot (dTru (dArgs sem__law_is (dCons (dArgs sem_total (dCons (dVar 4) dNil)) (dCons (dVar 5) (dCons (dVar 6) dNil)))))) (dNot (dTru (dArgs sem__law_is (dCons (dArgs sem_total (dCons (dArgs gTuple (dCons (dVar 4) dNil)) dNil)) (dCons (dVar 5) (dCons (dVar 6) dNil)))))))
    (dRet (dC (.bl false)))
    dSkip)
    (dSeq (dSet 10 (dArgs sem_common (dCons (dVar 4) dNil)))
    (dRet (dAndV (dBin gEq (dVar 4) (dVar 9)) (dAndV (dArgs sem__law_is_whole (dCons (dVar 10) dNil)) (dAndV (dBin gEq (dVar 10) (dVar 7)) (dBin gEq (dArgs sem_common (dCons (dArgs gTuple (dCons (dVar 4) dNil)) dNil)) (dVar 7))))))))))))))))))
noncomputable def sem__law_sums : Sem' := semOf 11 body__law_sums
theorem sc__law_sums : FnScope ["a", "b", "c", "jar", "row", "p", "q", "shared", "one", "kept", "told"] ["a", "b", "c", "jar"] (defScope (topS 37)) := ⟨rfl, rfl, rfl, by decide +kernel, rfl, by decide +kernel, by decide +kernel⟩
theorem ok__law_sums (T : Txt P w K mg base) : FnT P w K mg base 6 "_law_sums" ["a", "b", "c", "jar"] sem__law_sums := by
  have c__law_gcd := ok__law_gcd T
  have c__law_is := ok__law_is T
  have c__law_is_whole := ok__law_is_whole T
  have c__law_take := ok__law_take T
  have c_common := ok_common T
  have c_minus := ok_minus T
  have c_over := ok_over T
  have c_plus := ok_plus T
  have c_times := ok_times T
  have c_total := ok_total T
  have h__law_is_whole := okh__law_is_whole T
  have S := sc__law_sums
  refine fnT_of 5 T.d__law_sums S fun f cdv A outer s H E hr tk => ?_
  exact (dss_cons (ds_if (dt_not (dt_tru (de_callT c__law_is rfl hr (by decide) (by rfl) tk (da_cons (de_callT c_plus rfl hr (by decide) (by rfl) tk (da_cons (dv 0) (da_cons (dv 1) da_nil)) (argN_cons (argN_cons argN_nil))) (da_cons (de_bin op_addD ne_Add (de_bin op_mulD ne_Mul (de_ix ix_D ne_Ix (dv 0) de_int (fun _ _ => rfl)) (de_ix ix_D ne_Ix (dv 1) de_int (fun _ _ => rfl))) (de_bin op_mulD ne_Mul (de_ix ix_D ne_Ix (dv 1) de_int (fun _ _ => rfl)) (de_ix ix_D ne_Ix (dv 0) de_int (fun _ _ => rfl)))) (da_cons (de_bin op_mulD ne_Mul (de_ix ix_D ne_Ix (dv 0) de_int (fun _ _ => rfl)) (de_ix ix_D ne_Ix (dv 1) de_int (fun _ _ => rfl))) da_nil))) (argN_cons (argN_cons (argN_cons argN_nil))))))
    (dss_one (ds_ret de_bl))
    dss_nil)
    (dss_cons (ds_if (dt_not (dt_tru (de_callT c__law_is rfl hr (by decide) (by rfl) tk (da_cons (de_callT c_minus rfl hr (by decide) (by rfl) tk (da_cons (dv 0) (da_cons (dv 1) da_nil)) (argN_cons (argN_cons argN_nil))) (da_cons (de_bin op_subD ne_Sub (de_bin op_mulD ne_Mul (de_ix ix_D ne_Ix (dv 0) de_int (fun _ _ => rfl)) (de_ix ix_D ne_Ix (dv 1) de_int (fun _ _ => rfl))) (de_bin op_mulD ne_Mul (de_ix ix_D ne_Ix (dv 1) de_int (fun _ _ => rfl)) (de_ix ix_D ne_Ix (dv 0) de_int (fun _ _ => rfl)))) (da_cons (de_bin op_mulD ne_Mul (de_ix ix_D ne_Ix (dv 0) de_int (fun _ _ => rfl)) (de_ix ix_D ne_Ix (dv 1) de_int (fun _ _ => rfl))) da_nil))) (argN_cons (argN_cons (argN_cons argN_nil))))))
    (dss_one (ds_ret de_bl))
    dss_nil)
    (dss_cons (ds_if (dt_not (dt_tru (de_callT c__law_is rfl hr (by decide) (by rfl) tk (da_cons (de_callT c_times rfl hr (by decide) (by rfl) tk (da_cons (dv 0) (da_cons (dv 1) da_nil)) (argN_cons (argN_cons argN_nil))) (da_cons (de_bin op_mulD ne_Mul (de_ix ix_D ne_Ix (dv 0) de_int (fun _ _ => rfl)) (de_ix ix_D ne_Ix (dv 1) de_int (fun _ _ => rfl))) (da_cons (de_bin op_mulD ne_Mul (de_ix ix_D ne_Ix (dv 0) de_int (fun _ _ => rfl)) (de_ix ix_D ne_Ix (dv 1) de_int (fun _ _ => rfl))) da_nil))) (argN_cons (argN_cons (argN_cons argN_nil))))))
    (dss_one (ds_ret de_bl))
    dss_nil)
    (dss_cons (ds_if (dt_w (dw_and (dt_cmp (op_neA hr.units) ne_Ne (de_ix ix_D ne_Ix (dv 1) de_int (fun _ _ => rfl)) de_int (nomark _)) (dw_and1 (dt_not (dt_tru (de_callT c__law_is rfl hr (by decide) (by rfl) tk (da_cons (de_callT c_over rfl hr (by decide) (by rfl) tk (da_cons (dv 0) (da_cons (dv 1) da_nil)) (argN_cons (argN_cons argN_nil))) (da_cons (de_bin op_mulD ne_Mul (de_ix ix_D ne_Ix (dv 0) de_int (fun _ _ => rfl)) (de_ix ix_D ne_Ix (dv 1) de_int (fun _ _ => rfl))) (da_cons (de_bin op_mulD ne_Mul (de_ix ix_D ne_Ix (dv 0) de_int (fun _ _ => rfl)) (de_ix ix_D ne_Ix (dv 1) de_int (fun _ _ => rfl))) da_nil))) (argN_cons (argN_cons (argN_cons argN_nil)))))))))
    (dss_one (ds_ret de_bl))
    dss_nil)
    (dss_cons (ds_set (i := 4) S.nd rfl (Or.inl rfl) (de_slice sl_D ne_Slc (de_lst (da_cons (dv 0) (da_cons (dv 1) (da_cons (dv 2) da_nil)))) do_none (do_some (de_callT c__law_take rfl hr (by decide) (by rfl) tk (da_cons (dv 3) (da_cons de_int da_nil)) (argN_cons (argN_cons argN_nil))))))
    (dss_cons (ds_set (i := 5) S.nd rfl (Or.inl rfl) de_int)
    (dss_cons (ds_set (i := 6) S.nd rfl (Or.inl rfl) de_int)
    (dss_cons (ds_set (i := 7) S.nd rfl (Or.inl rfl) de_int)
    (dss_cons (ds_for (passes_of rfl) rfl (di_it (dv 4)) (dg_name (i := 8) S.nd rfl (Or.inl rfl))
    (dss_cons (ds_set (i := 5) S.nd rfl (Or.inl rfl) (de_bin op_addD ne_Add (de_bin op_mulD ne_Mul (dv 5) (de_ix ix_D ne_Ix (dv 8) de_int (fun _ _ => rfl))) (de_bin op_mulD ne_Mul (de_ix ix_D ne_Ix (dv 8) de_int (fun _ _ => rfl)) (dv 6))))
    (dss_cons (ds_set (i := 6) S.nd rfl (Or.inl rfl) (de_bin op_mulD ne_Mul (dv 6) (de_ix ix_D ne_Ix (dv 8) de_int (fun _ _ => rfl))))
    (dss_one (ds_set (i := 7) S.nd rfl (Or.inl rfl) (de_bin op_fdivD ne_Fdiv (de_bin op_mulD ne_Mul (dv 7) (de_ix ix_D ne_Ix (dv 8) de_int (fun _ _ => rfl))) (de_callT c__law_gcd rfl hr (by decide) (by rfl) tk (da_cons (dv 7) (da_cons (de_ix ix_D ne_Ix (dv 8) de_int (fun _ _ => rfl)) da_nil)) (argN_cons (argN_cons argN_nil)))))))))
    (dss_cons (ds_set (i := 9) S.nd rfl (Or.inl rfl) (de_callTy cr_list ne_List (by rfl) T.b_list bo_list (da_cons (dv 4) da_nil)))
    (dss_cons (ds_if (dt_w (dw_or (dt_not (dt_tru (de_callT c__law_is rfl hr (by decide) (by rfl) tk (da_cons (de_callT c_total rfl hr (by decide) (by rfl) tk (da_cons (dv 4) da_nil) (argN_cons argN_nil)) (da_cons (dv 5) (da_cons (dv 6) da_nil))) (argN_cons (argN_cons (argN_cons argN_nil)))))) (dw_or1 (dt_not (dt_tru (de_callT c__law_is rfl hr (by decide) (by rfl) tk (da_cons (de_callT c_total rfl hr (by decide) (by rfl) tk (da_cons (de_callTy cr_tuple ne_Tuple (by rfl) T.b_tuple bo_tuple (da_cons (dv 4) da_nil)) da_nil) (argN_cons argN_nil)) (da_cons (dv 5) (da_cons (dv 6) da_nil))) (argN_cons (argN_cons (argN_cons argN_nil)))))))))
    (dss_one (ds_ret de_bl))
    dss_nil)
    (dss_cons (ds_set (i := 10) S.nd rfl (Or.inl rfl) (de_callT c_common rfl hr (by decide) (by rfl) tk (da_cons (dv 4) da_nil) (argN_cons argN_nil)))
    (dss_one (ds_ret (de_and (de_cmp (op_eqA hr.units) ne_Eq (dv 4) (dv 9) (nomark _)) (de_and (de_callT c__law_is_whole rfl hr (by decide) (by rfl) tk (da_cons (dv 10) da_nil) (argN_cons argN_nil)) (de_and (de_cmp (op_eqA hr.units) ne_Eq (dv 10) (dv 7) (nomark _)) (de_one (de_cmp (op_eqA hr.units) ne_Eq (de_callT c_common rfl hr (by decide) (by rfl) tk (da_cons (de_callTy cr_tuple ne_Tuple (by rfl) T.b_tuple bo_tuple (da_cons (dv 4) da_nil)) da_nil) (argN_cons argN_nil)) (dv 7) (nomark _))))))))))))))))))))
noncomputable def body_law : DSt → DHp → SR :=
    (dSeq (dSet 1 (dArgs sem__law_jar (dCons (dVar 0) (dCons (dC (.int 0)) dNil))))
    (dSeq (dSet 2 (dArgs sem__law_pair (dCons (dVar 1) dNil)))
    (dSeq (dSet 3 (dArgs sem__law_pair (dCons (dArgs sem__law_jar (dCons (dVar 0) (dCons (dC (.int 1)) dNil))) dNil)))
    (dSeq (dSet 4 (dArgs sem__law_pair (dCons (dArgs sem__law_jar (dCons (dVar 0) (dCons (dC (.int 2)) dNil))) dNil)))
    (dSeq (dSet 5 (dArgs sem_fraction (dCons (dBin gIx (dVar 2) (dC (.int 0))) (dCons (dBin gIx (dVar 2) (dC (.int 1))) dNil))))
    (dSeq (dSet 6 (dArgs sem_fraction (dCons (dBin gIx (dVar 3) (dC (.int 0))) (dCons (dBin gIx (dVar 3) (dC (.int 1))) dNil))))
    (dSeq (dSet 7 (dArgs sem_fraction (dCons (dBin gIx (dVar 4) (dC (.int 0))) (dCons (dBin gIx (dVar 4) (dC (.int 1))) dNil))))
    (dSeq (dIf (dOr (dTb (dBin gNe (dVar 5) (dArgs sem__law_lowest (dCons (dBin gIx (dVar 2) (dC (.int 0))) (dCons (dBin gIx (dVar 2) (dC (.int 1))) dNil))))) (dNot (dTru (dArgs sem__law_is_fraction (dCons (dVar 5) dNil)))))
    (dRet (dC (.bl false)))
    dSkip)
    (dSeq (dIf (dOr (dTb (dBin gNe (dVar 6) (dArgs sem__law_lowest (dCons (dBin gIx (dVar 3) (dC (.int 0))) (dCons (dBin gIx (dVar 3) (dC (.int 1))) dNil))))) (dNot (dTru (dArgs sem__law_is_fraction (dCons (dVar 6) dNil)))))
    (dRet (dC (.bl false)))
    dSkip)
    (dSeq (dIf (dOr (dTb (dBin gNe (dVar 7) (dArgs sem__law_lowest (dCons (dBin gIx (dVar 4) (dC (.int 0))) (dCons (dBin gIx (dVar 4) (dC (.int 1))) dNil))))) (dNot (dTru (dArgs sem__law_is_fraction (dCons (dVar 7) dNil)))))
    (dRet (dC (.bl false)))
    dSkip)
    (dSeq (dIf (dOr (dNot (dTru (dArgs sem__law_zero (dCons (dBin gIx (dVar 2) (dC (.int 0))) (dCons (dVar 5) dNil))))) (dNot (dTru (dArgs sem__law_sums (dCons (dVar 5) (dCons (dVar 6) (dCons (dVar 7) (dCons (dArgs sem__law_jar (dCons (dVar 0) (dCons (dC (.int 3)) dNil))) dNil))))))))
    (dRet (dC (.bl false)))
    dSkip)
    (dRet (dAndV (dArgs sem__law_orders (dCons (dVar 5) (dCons (dVar 6) dNil))) (dAndV (dArgs sem__law_orders (dCons (dVar 6) (dCons (dVar 7) dNil))) (dAndV (dArgs sem__law_ranges (dCons (dVar 5) (dCons (dVar 6) (dCons (dVar 7) dNil)))) (dArgs sem__law_kinds (dCons (dVar 5) (dCons (dBin gIx (dVar 2) (dC (.int 1))) dNil))))))))))))))))))
noncomputable def sem_law : Sem' := semOf 8 body_law
theorem sc_law : FnScope ["script", "jar", "first", "second", "third", "a", "b", "c"] ["script"] (defScope (topS 41)) := ⟨rfl, rfl, rfl, by decide +kernel, rfl, by decide +kernel, by decide +kernel⟩
theorem ok_law (T : Txt P w K mg base) : FnT P w K mg base 7 "law" ["script"] sem_law := by
  have c__law_is_fraction := ok__law_is_fraction T
  have c__law_jar := ok__law_jar T
  have c__law_kinds := ok__law_kinds T
  have c__law_lowest := ok__law_lowest T
  have c__law_orders := ok__law_orders T
  have c__law_pair := ok__law_pair T
  have c__law_ranges := ok__law_ranges T
  have c__law_sums := ok__law_sums T
  have c__law_zero := ok__law_zero T
  have c_fraction := ok_fraction T
  have S := sc_law
  refine fnT_of 6 T.d_law S fun f cdv A outer s H E hr tk => ?_
  exact (dss_cons (ds_set (i := 1) S.nd rfl (Or.inl rfl) (de_callT c__law_jar rfl hr (by decide) (by rfl) tk (da_cons (dv 0) (da_cons de_int da_nil)) (argN_cons (argN_cons argN_nil))))
    (dss_cons (ds_set (i := 2) S.nd rfl (Or.inl rfl) (de_callT c__law_pair rfl hr (by decide) (by rfl) tk (da_cons (dv 1) da_nil) (argN_cons argN_nil)))
    (dss_cons (ds_set (i := 3) S.nd rfl (Or.inl rfl) (de_callT c__law_pair rfl hr (by decide) (by rfl) tk (da_cons (de_callT c__law_jar rfl hr (by decide) (by rfl) tk (da_cons (dv 0) (da_cons de_int da_nil)) (argN_cons (argN_cons argN_nil))) da_nil) (argN_cons argN_nil)))
    (dss_cons (ds_set (i := 4) S.nd rfl (Or.inl rfl) (de_callT c__law_pair rfl hr (by decide) (by rfl) tk (da_cons (de_callT c__law_jar rfl hr (by decide) (by rfl) tk (da_cons (dv 0) (da_cons de_int da_nil)) (argN_cons (argN_cons argN_nil))) da_nil) (argN_cons argN_nil)))
    (dss_cons (ds_set (i := 5) S.nd rfl (Or.inl rfl) (de_callT c_fraction rfl hr (by decide) (by rfl) tk (da_cons (de_ix ix_D ne_Ix (dv 2) de_int (fun _ _ => rfl)) (da_cons (de_ix ix_D ne_Ix (dv 2) de_int (fun _ _ => rfl)) da_nil)) (argN_cons (argN_cons argN_nil))))
    (dss_cons (ds_set (i := 6) S.nd rfl (Or.inl rfl) (de_callT c_fraction rfl hr (by decide) (by rfl) tk (da_cons (de_ix ix_D ne_Ix (dv 3) de_int (fun _ _ => rfl)) (da_cons (de_ix ix_D ne_Ix (dv 3) de_int (fun _ _ => rfl)) da_nil)) (argN_cons (argN_cons argN_nil))))
    (dss_cons (ds_set (i := 7) S.nd rfl (Or.inl rfl) (de_callT c_fraction rfl hr (by decide) (by rfl) tk (da_cons (de_ix ix_D ne_Ix (dv 4) de_int (fun _ _ => rfl)) (da_cons (de_ix ix_D ne_Ix (dv 4) de_int (fun _ _ => rfl)) da_nil)) (argN_cons (argN_cons argN_nil))))
    (dss_cons (ds_if (dt_w (dw_or (dt_cmp (op_neA hr.units) ne_Ne (dv 5) (de_callT c__law_lowest rfl hr (by decide) (by rfl) tk (da_cons (de_ix ix_D ne_Ix (dv 2) de_int (fun _ _ => rfl)) (da_cons (de_ix ix_D ne_Ix (dv 2) de_int (fun _ _ => rfl)) da_nil)) (argN_cons (argN_cons argN_nil))) (nomark _)) (dw_or1 (dt_not (dt_tru (de_callT c__law_is_fraction rfl hr (by decide) (by rfl) tk (da_cons (dv 5) da_nil) (argN_cons argN_nil)))))))
    (dss_one (ds_ret de_bl))
    dss_nil)
    (dss_cons (ds_if (dt_w (dw_or (dt_cmp (op_neA hr.units) ne_Ne (dv 6) (de_callT c__law_lowest rfl hr (by decide) (by rfl) tk (da_cons (de_ix ix_D ne_Ix (dv 3) de_int (fun _ _ => rfl)) (da_cons (de_ix ix_D ne_Ix (dv 3) de_int (fun _ _ => rfl)) da_nil)) (argN_cons (argN_cons argN_nil))) (nomark _)) (dw_or1 (dt_not (dt_tru (de_callT c__law_is_fraction rfl hr (by decide) (by rfl) tk (da_cons (dv 6) da_nil) (argN_cons argN_nil)))))))
    (dss_one (ds_ret de_bl))
    dss_nil)
    (dss_cons (ds_if (dt_w (dw_or (dt_cmp (op_neA hr.units) ne_Ne (dv 7) (de_callT c__law_lowest rfl hr (by decide) (by rfl) tk (da_cons (de_ix ix_D ne_Ix (dv 4) de_int (fun _ _ => rfl)) (da_cons (de_ix ix_D ne_Ix (dv 4) de_int (fun _ _ => rfl)) da_nil)) (argN_cons (argN_cons argN_nil))) (nomark _)) (dw_or1 (dt_not (dt_tru (de_callT c__law_is_fraction rfl hr (by decide) (by rfl) tk (da_cons (dv 7) da_nil) (argN_cons argN_nil)))))))
    (dss_one (ds_ret de_bl))
    dss_nil)
    (dss_cons (ds_if (dt_w (dw_or (dt_not (dt_tru (de_callT c__law_zero rfl hr (by decide) (by rfl) tk (da_cons (de_ix ix_D ne_Ix (dv 2) de_int (fun _ _ => rfl)) (da_cons (dv 5) da_nil)) (argN_cons (argN_cons argN_nil))))) (dw_or1 (dt_not (dt_tru (de_callT c__law_sums rfl hr (by decide) (by rfl) tk (da_cons (dv 5) (da_cons (dv 6) (da_cons (dv 7) (da_cons (de_callT c__law_jar rfl hr (by decide) (by rfl) tk (da_cons (dv 0) (da_cons de_int da_nil)) (argN_cons (argN_cons argN_nil))) da_nil)))) (argN_cons (argN_cons (argN_cons (argN_cons argN_nil))))))))))
    (dss_one (ds_ret de_bl))
    dss_nil)
    (dss_one (ds_ret (de_and (de_callT c__law_orders rfl hr (by decide) (by rfl) tk (da_cons (dv 5) (da_cons (dv 6) da_nil)) (argN_cons (argN_cons argN_nil))) (de_and (de_callT c__law_orders rfl hr (by decide) (by rfl) tk (da_cons (dv 6) (da_cons (dv 7) da_nil)) (argN_cons (argN_cons argN_nil))) (de_and (de_callT c__law_ranges rfl hr (by decide) (by rfl) tk (da_cons (dv 5) (da_cons (dv 6) (da_cons (dv 7) da_nil))) (argN_cons (argN_cons (argN_cons argN_nil)))) (de_one (de_callT c__law_kinds rfl hr (by decide) (by rfl) tk (da_cons (dv 5) (da_cons (de_ix ix_D ne_Ix (dv 2) de_int (fun _ _ => rfl)) da_nil)) (argN_cons (argN_cons argN_nil))))))))))))))))))))
end
end Mill
end

section
set_option Elab.async false
set_option linter.all false
set_option maxRecDepth 100000
set_option maxHeartbeats 1000000
namespace Mill
open PySem DL
/-! ### numbers -/
def fr (P Q : Int) : D := .tup [.int P, .int Q]
def nP (p q : Int) : Int := (if q < 0 then -p else p) / ((Nat.gcd p.natAbs q.natAbs : Nat) : Int)
def nQ (p q : Int) : Int := (if q < 0 then -q else q) / ((Nat.gcd p.natAbs q.natAbs : Nat) : Int)
structure Fr (P Q : Int) : Prop where
  pos : 0 < Q
  cop : Nat.gcd P.natAbs Q.natAbs = 1
theorem natAbs_ediv_cast (a : Int) (g : Nat) (h : (g : Int) ∣ a) : (a / (g : Int)).natAbs = a.natAbs / g := by
  obtain ⟨c, rfl⟩ := h
  rcases Nat.eq_zero_or_pos g with e | e
  · subst e; simp
  · rw [Int.mul_ediv_cancel_left c (by omega), Int.natAbs_mul, Int.natAbs_natCast, Nat.mul_div_cancel_left _ e]
theorem gcd_dvdl (p q : Int) : ((Nat.gcd p.natAbs q.natAbs : Nat) : Int) ∣ p := Int.natAbs_dvd_natAbs.mp (by rw [Int.natAbs_natCast]; exact Nat.gcd_dvd_left _ _)
theorem gcd_dvdr (p q : Int) : ((Nat.gcd p.natAbs q.natAbs : Nat) : Int) ∣ q := Int.natAbs_dvd_natAbs.mp (by rw [Int.natAbs_natCast]; exact Nat.gcd_dvd_right _ _)
theorem nP_abs (p q : Int) : (nP p q).natAbs = p.natAbs / Nat.gcd p.natAbs q.natAbs := by
  unfold nP
  rw [natAbs_ediv_cast]
  · split
    · rw [Int.natAbs_neg]
    · rfl
  · split
    · exact Int.dvd_neg.mpr (gcd_dvdl p q)
    · exact gcd_dvdl p q
theorem nQ_abs (p q : Int) : (nQ p q).natAbs = q.natAbs / Nat.gcd p.natAbs q.natAbs := by
  unfold nQ
  rw [natAbs_ediv_cast]
  · split
    · rw [Int.natAbs_neg]
    · rfl
  · split
    · exact Int.dvd_neg.mpr (gcd_dvdr p q)
    · exact gcd_dvdr p q
theorem g_pos {p q : Int} (hq : q ≠ 0) : 0 < Nat.gcd p.natAbs q.natAbs := Nat.gcd_pos_of_pos_right _ (Int.natAbs_pos.mpr hq)
theorem nrm_fr {p q : Int} (hq : q ≠ 0) : Fr (nP p q) (nQ p q) := by
  refine ⟨?_, ?_⟩
  · unfold nQ
    have g := g_pos (p := p) hq
    have h1 : 0 < (if q < 0 then -q else q) := by split <;> omega
    obtain ⟨c, hc⟩ : ((Nat.gcd p.natAbs q.natAbs : Nat) : Int) ∣ (if q < 0 then -q else q) := by
      split
      · exact Int.dvd_neg.mpr (gcd_dvdr p q)
      · exact gcd_dvdr p q
    rw [hc] at h1 ⊢
    rw [Int.mul_ediv_cancel_left _ (by omega)]
    have g' : (0 : Int) < ((Nat.gcd p.natAbs q.natAbs : Nat) : Int) := by omega
    exact Int.lt_of_mul_lt_mul_left (by rw [Int.mul_zero]; exact h1) (Int.le_of_lt g')
  · rw [nP_abs, nQ_abs]
    exact Nat.gcd_div_gcd_div_gcd_of_pos_right (Int.natAbs_pos.mpr hq)
theorem nrm_val {p q : Int} (hq : q ≠ 0) : nP p q * q = p * nQ p q := by
  have g := g_pos (p := p) hq
  obtain ⟨a, ha⟩ := gcd_dvdl p q
  obtain ⟨b, hb⟩ := gcd_dvdr p q
  unfold nP nQ
  generalize hg : ((Nat.gcd p.natAbs q.natAbs : Nat) : Int) = G at *
  have G0 : G ≠ 0 := by omega
  split
  · rw [show -p = G * (-a) by rw [ha]; simp [Int.mul_neg], show -q = G * (-b) by rw [hb]; simp [Int.mul_neg], Int.mul_ediv_cancel_left _ G0, Int.mul_ediv_cancel_left _ G0, ha, hb]
    simp only [Int.mul_neg, Int.neg_mul, Int.mul_assoc, Int.mul_comm, Int.mul_left_comm]
  · rw [show p = G * a from ha, show q = G * b from hb, Int.mul_ediv_cancel_left _ G0, Int.mul_ediv_cancel_left _ G0]
    simp only [Int.mul_assoc, Int.mul_comm, Int.mul_left_comm]
theorem nP_le (p q : Int) : (nP p q).natAbs ≤ p.natAbs := by rw [nP_abs]; exact Nat.div_le_self _ _
theorem nQ_le (p q : Int) : (nQ p q).natAbs ≤ q.natAbs := by rw [nQ_abs]; exact Nat.div_le_self _ _
theorem bd_mul {i j : Int} {a b : Nat} (ha : i.natAbs < 2 ^ a) (hb : j.natAbs < 2 ^ b) : (i * j).natAbs < 2 ^ (a + b) := L2.wide_lt ha hb
theorem bd_add {i j : Int} {a : Nat} (ha : i.natAbs < 2 ^ a) (hb : j.natAbs < 2 ^ a) : (i + j).natAbs < 2 ^ (a + 1) := by
  rw [Nat.pow_succ]; omega
theorem bd_sub {i j : Int} {a : Nat} (ha : i.natAbs < 2 ^ a) (hb : j.natAbs < 2 ^ a) : (i - j).natAbs < 2 ^ (a + 1) := by
  rw [Nat.pow_succ]; omega
theorem bd_mono {i : Int} {a b : Nat} (ha : i.natAbs < 2 ^ a) (h : a ≤ b) : i.natAbs < 2 ^ b := Nat.lt_of_lt_of_le ha (Nat.pow_le_pow_right (by decide) h)
theorem divOk_gcd {p q : Int} {b : Nat} (hq : q ≠ 0) (hb : q.natAbs < 2 ^ b) (h0 : 0 < b) (h9 : b ≤ 9000) : divOk ((Nat.gcd p.natAbs q.natAbs : Nat) : Int) := by
  have g := g_pos (p := p) hq
  refine divOk_bd (by omega) (b := b) ?_ h0 h9
  rw [Int.natAbs_natCast]
  exact Nat.lt_of_le_of_lt (Nat.le_of_dvd (Int.natAbs_pos.mpr hq) (Nat.gcd_dvd_right _ _)) hb
/-! ### the program's defs -/
theorem fraction_ok (p q : Int) (h : DHp) (hq : q ≠ 0) (hd : divOk ((Nat.gcd p.natAbs q.natAbs : Nat) : Int)) : sem_fraction [.int p, .int q] h = .ok (fr (nP p q) (nQ p q)) h := by
  unfold sem_fraction body_fraction fr nP nQ
  have f1 : ∀ x : Int, x.fdiv ((Nat.gcd p.natAbs q.natAbs : Nat) : Int) = x / ((Nat.gcd p.natAbs q.natAbs : Nat) : Int) := fun x => Int.fdiv_eq_ediv_of_nonneg _ (by omega)
  by_cases c : q < 0
  · simp -implicitDefEqProofs only [gc_same, gc_ex, gc_no, ev_seq, thenS_nx, thenS_rt, thenS_bk, thenS_ct, thenS_ex, ev_skip, ev_brk, ev_cnt, ev_var, ev_c, ev_un, un1_ok, ev_bin, bin1_ok, bin2_ok, bin1_ex, bin2_ex, ev_tb, tb1_ok, tb1_ex, ev_tru, tr1_bl, tr1_non, tr1_int, tr1_str, tr1_tup, tr1_frl, tr1_ex, ev_nil, ev_cons, cons1_ok, cons2_ok, cons1_ex, cons2_ex, ev_args, arg1_ok, arg1_ex, ev_and, and1_t, and1_f, and1_ex, ev_or, or1_t, or1_f, or1_ex, ev_not, not1_ok, not1_ex, ev_andV, andV1_t, andV1_f, andV1_ex, ev_orV, orV1_t, orV1_f, orV1_ex, ev_notV, notV1_ok, notV1_ex, ev_ifE, ifE1_t, ifE1_f, ev_if, ifS1_t, ifS1_f, ifS1_ex, ev_set, set1_ok, set1_ex, ev_drop, drop1_ok, drop1_ex, ev_ret, ret1_ok, ret1_ex, ev_retN, ev_par, par1_ok, ev_asg, asg1_ok, asg1_ex, asg2_ok, ev_tgN, ev_tgT, ev_tgCons, tgC_ok, ev_tgNil, ev_semOf, fin1_nx, fin1_rt, fin1_ex, gAdd_int, gSub_int, gMul_int, gFdiv_int, gMod_int, gNeg_int, gLt_int, gLe_int, gGt_int, gGe_int, gEq_int, gNe_int, gIs_bb, gIsN_bb, gIs_non, gIs_tn, gIs_in, gIs_on, gIs_sn, gIsN_non, gIsN_tn, gIsN_in, gIsN_on, gIsN_sn, gIx_tup0, gIx_tup1, gIx_tup2, gIx_tup3, gIx_tup4, gLen_tup, gLen_frl, gLen_str, gInt_int, gInt_bl, gAbs_int, gMax_int, gMin_int, gGcd_int, gLcm_int, gList_tup, gTuple_tup, ev_for, for1_ok, for1_ex, forT_ok, forB_nx, forB_ct, forB_bk, forB_rt, forB_ex, ev_it, it1_tup, it1_frl, it1_str, ev_itA, itA1_ok, ev_sl, sl1_ok, sl2_ok, sl3_ok, ev_noPart, ev_part, part1_ok, gSlc_tup, gSlc_str, ev_sto, sto1_ok, sto2_ok, ev_raise, ev_chain, ch1_ok, ch2_ok, ch3_t, ch3_f, kd_int, kd_bl, kd_str, kd_non, kd_tup, isi_int_int, isi_int_bool, isi_int_str, isi_int_tuple, isi_int_list, isi_int_dict, isi_bl_int, isi_bl_bool, isi_bl_str, isi_bl_tuple, isi_bl_list, isi_bl_dict, isi_str_int, isi_str_bool, isi_str_str, isi_str_tuple, isi_str_list, isi_str_dict, isi_non_int, isi_non_bool, isi_non_str, isi_non_tuple, isi_non_list, isi_non_dict, isi_tup_int, isi_tup_bool, isi_tup_str, isi_tup_tuple, isi_tup_list, isi_tup_dict, isi_frl_int, isi_frl_bool, isi_frl_str, isi_frl_tuple, isi_frl_list, isi_frl_dict, gTup_0, gLst_0, gTup_1, gLst_1, gTup_2, gLst_2, gTup_3, gLst_3, gTup_4, gLst_4, gTup_5, gLst_5, gTup_6, gLst_6, gTup_7, gLst_7, gTup_8, gLst_8, gTup_9, gLst_9, List.map_cons, List.map_nil, List.length_cons, List.length_nil, List.replicate_succ, List.replicate_zero, List.cons_append, List.nil_append, List.set_cons_succ, List.set_cons_zero, List.getElem?_cons_succ, List.getElem?_cons_zero, Nat.reduceAdd, Nat.reduceSub, Nat.zero_add, Nat.add_zero, Bool.not_true, Bool.not_false, decide_true, decide_false, ne_eq, not_false_eq_true, not_true_eq_false, hq, c, Int.natAbs_neg, hd, if_true, f1]
  · simp -implicitDefEqProofs only [gc_same, gc_ex, gc_no, ev_seq, thenS_nx, thenS_rt, thenS_bk, thenS_ct, thenS_ex, ev_skip, ev_brk, ev_cnt, ev_var, ev_c, ev_un, un1_ok, ev_bin, bin1_ok, bin2_ok, bin1_ex, bin2_ex, ev_tb, tb1_ok, tb1_ex, ev_tru, tr1_bl, tr1_non, tr1_int, tr1_str, tr1_tup, tr1_frl, tr1_ex, ev_nil, ev_cons, cons1_ok, cons2_ok, cons1_ex, cons2_ex, ev_args, arg1_ok, arg1_ex, ev_and, and1_t, and1_f, and1_ex, ev_or, or1_t, or1_f, or1_ex, ev_not, not1_ok, not1_ex, ev_andV, andV1_t, andV1_f, andV1_ex, ev_orV, orV1_t, orV1_f, orV1_ex, ev_notV, notV1_ok, notV1_ex, ev_ifE, ifE1_t, ifE1_f, ev_if, ifS1_t, ifS1_f, ifS1_ex, ev_set, set1_ok, set1_ex, ev_drop, drop1_ok, drop1_ex, ev_ret, ret1_ok, ret1_ex, ev_retN, ev_par, par1_ok, ev_asg, asg1_ok, asg1_ex, asg2_ok, ev_tgN, ev_tgT, ev_tgCons, tgC_ok, ev_tgNil, ev_semOf, fin1_nx, fin1_rt, fin1_ex, gAdd_int, gSub_int, gMul_int, gFdiv_int, gMod_int, gNeg_int, gLt_int, gLe_int, gGt_int, gGe_int, gEq_int, gNe_int, gIs_bb, gIsN_bb, gIs_non, gIs_tn, gIs_in, gIs_on, gIs_sn, gIsN_non, gIsN_tn, gIsN_in, gIsN_on, gIsN_sn, gIx_tup0, gIx_tup1, gIx_tup2, gIx_tup3, gIx_tup4, gLen_tup, gLen_frl, gLen_str, gInt_int, gInt_bl, gAbs_int, gMax_int, gMin_int, gGcd_int, gLcm_int, gList_tup, gTuple_tup, ev_for, for1_ok, for1_ex, forT_ok, forB_nx, forB_ct, forB_bk, forB_rt, forB_ex, ev_it, it1_tup, it1_frl, it1_str, ev_itA, itA1_ok, ev_sl, sl1_ok, sl2_ok, sl3_ok, ev_noPart, ev_part, part1_ok, gSlc_tup, gSlc_str, ev_sto, sto1_ok, sto2_ok, ev_raise, ev_chain, ch1_ok, ch2_ok, ch3_t, ch3_f, kd_int, kd_bl, kd_str, kd_non, kd_tup, isi_int_int, isi_int_bool, isi_int_str, isi_int_tuple, isi_int_list, isi_int_dict, isi_bl_int, isi_bl_bool, isi_bl_str, isi_bl_tuple, isi_bl_list, isi_bl_dict, isi_str_int, isi_str_bool, isi_str_str, isi_str_tuple, isi_str_list, isi_str_dict, isi_non_int, isi_non_bool, isi_non_str, isi_non_tuple, isi_non_list, isi_non_dict, isi_tup_int, isi_tup_bool, isi_tup_str, isi_tup_tuple, isi_tup_list, isi_tup_dict, isi_frl_int, isi_frl_bool, isi_frl_str, isi_frl_tuple, isi_frl_list, isi_frl_dict, gTup_0, gLst_0, gTup_1, gLst_1, gTup_2, gLst_2, gTup_3, gLst_3, gTup_4, gLst_4, gTup_5, gLst_5, gTup_6, gLst_6, gTup_7, gLst_7, gTup_8, gLst_8, gTup_9, gLst_9, List.map_cons, List.map_nil, List.length_cons, List.length_nil, List.replicate_succ, List.replicate_zero, List.cons_append, List.nil_append, List.set_cons_succ, List.set_cons_zero, List.getElem?_cons_succ, List.getElem?_cons_zero, Nat.reduceAdd, Nat.reduceSub, Nat.zero_add, Nat.add_zero, Bool.not_true, Bool.not_false, decide_true, decide_false, ne_eq, not_false_eq_true, not_true_eq_false, hq, c, hd, if_false, f1]
theorem fraction_zero (p : Int) (h : DHp) : sem_fraction [.int p, .int 0] h = .ex ⟨"ZeroDenominator", some [("number", .int p)]⟩ h := by
  unfold sem_fraction body_fraction
  simp -implicitDefEqProofs only [gc_same, gc_ex, gc_no, ev_seq, thenS_nx, thenS_rt, thenS_bk, thenS_ct, thenS_ex, ev_skip, ev_brk, ev_cnt, ev_var, ev_c, ev_un, un1_ok, ev_bin, bin1_ok, bin2_ok, bin1_ex, bin2_ex, ev_tb, tb1_ok, tb1_ex, ev_tru, tr1_bl, tr1_non, tr1_int, tr1_str, tr1_tup, tr1_frl, tr1_ex, ev_nil, ev_cons, cons1_ok, cons2_ok, cons1_ex, cons2_ex, ev_args, arg1_ok, arg1_ex, ev_and, and1_t, and1_f, and1_ex, ev_or, or1_t, or1_f, or1_ex, ev_not, not1_ok, not1_ex, ev_andV, andV1_t, andV1_f, andV1_ex, ev_orV, orV1_t, orV1_f, orV1_ex, ev_notV, notV1_ok, notV1_ex, ev_ifE, ifE1_t, ifE1_f, ev_if, ifS1_t, ifS1_f, ifS1_ex, ev_set, set1_ok, set1_ex, ev_drop, drop1_ok, drop1_ex, ev_ret, ret1_ok, ret1_ex, ev_retN, ev_par, par1_ok, ev_asg, asg1_ok, asg1_ex, asg2_ok, ev_tgN, ev_tgT, ev_tgCons, tgC_ok, ev_tgNil, ev_semOf, fin1_nx, fin1_rt, fin1_ex, gAdd_int, gSub_int, gMul_int, gFdiv_int, gMod_int, gNeg_int, gLt_int, gLe_int, gGt_int, gGe_int, gEq_int, gNe_int, gIs_bb, gIsN_bb, gIs_non, gIs_tn, gIs_in, gIs_on, gIs_sn, gIsN_non, gIsN_tn, gIsN_in, gIsN_on, gIsN_sn, gIx_tup0, gIx_tup1, gIx_tup2, gIx_tup3, gIx_tup4, gLen_tup, gLen_frl, gLen_str, gInt_int, gInt_bl, gAbs_int, gMax_int, gMin_int, gGcd_int, gLcm_int, gList_tup, gTuple_tup, ev_for, for1_ok, for1_ex, forT_ok, forB_nx, forB_ct, forB_bk, forB_rt, forB_ex, ev_it, it1_tup, it1_frl, it1_str, ev_itA, itA1_ok, ev_sl, sl1_ok, sl2_ok, sl3_ok, ev_noPart, ev_part, part1_ok, gSlc_tup, gSlc_str, ev_sto, sto1_ok, sto2_ok, ev_raise, ev_chain, ch1_ok, ch2_ok, ch3_t, ch3_f, kd_int, kd_bl, kd_str, kd_non, kd_tup, isi_int_int, isi_int_bool, isi_int_str, isi_int_tuple, isi_int_list, isi_int_dict, isi_bl_int, isi_bl_bool, isi_bl_str, isi_bl_tuple, isi_bl_list, isi_bl_dict, isi_str_int, isi_str_bool, isi_str_str, isi_str_tuple, isi_str_list, isi_str_dict, isi_non_int, isi_non_bool, isi_non_str, isi_non_tuple, isi_non_list, isi_non_dict, isi_tup_int, isi_tup_bool, isi_tup_str, isi_tup_tuple, isi_tup_list, isi_tup_dict, isi_frl_int, isi_frl_bool, isi_frl_str, isi_frl_tuple, isi_frl_list, isi_frl_dict, gTup_0, gLst_0, gTup_1, gLst_1, gTup_2, gLst_2, gTup_3, gLst_3, gTup_4, gLst_4, gTup_5, gLst_5, gTup_6, gLst_6, gTup_7, gLst_7, gTup_8, gLst_8, gTup_9, gLst_9, List.map_cons, List.map_nil, List.length_cons, List.length_nil, List.replicate_succ, List.replicate_zero, List.cons_append, List.nil_append, List.set_cons_succ, List.set_cons_zero, List.getElem?_cons_succ, List.getElem?_cons_zero, Nat.reduceAdd, Nat.reduceSub, Nat.zero_add, Nat.add_zero, Bool.not_true, Bool.not_false, decide_true, decide_false, ne_eq, not_false_eq_true, not_true_eq_false, raise1_ok]
  rfl
theorem ratio_arith {p q : Int} {b : Nat} (hq : q ≠ 0) (hb : q.natAbs < 2 ^ b) (h0 : 0 < b) (h9 : b ≤ 9000) (h : DHp) : sem_fraction [.int p, .int q] h = .ok (fr (nP p q) (nQ p q)) h := fraction_ok p q h hq (divOk_gcd hq hb h0 h9)
section
variable {P Q R S : Int} {n m : Nat} (h : DHp)
theorem plus_ok (hP : P.natAbs < 2 ^ n) (hQ : Q.natAbs < 2 ^ n) (hR : R.natAbs < 2 ^ m) (hS : S.natAbs < 2 ^ m) (n0 : 0 < n) (m0 : 0 < m) (hn : n + m ≤ 9000) (q0 : Q * S ≠ 0) : sem_plus [fr P Q, fr R S] h = .ok (fr (nP (P * S + R * Q) (Q * S)) (nQ (P * S + R * Q) (Q * S))) h := by
  have a1 : mulOk P S := mulOk_bd hP hS n0 m0 (by omega)
  have a2 : mulOk R Q := mulOk_bd hR hQ m0 n0 (by omega)
  have a3 : mulOk Q S := mulOk_bd hQ hS n0 m0 (by omega)
  have f := ratio_arith (p := P * S + R * Q) q0 (bd_mul hQ hS) (by omega) hn h
  unfold sem_plus body_plus
  rw [fr, fr]
  simp -implicitDefEqProofs only [gc_same, gc_ex, gc_no, ev_seq, thenS_nx, thenS_rt, thenS_bk, thenS_ct, thenS_ex, ev_skip, ev_brk, ev_cnt, ev_var, ev_c, ev_un, un1_ok, ev_bin, bin1_ok, bin2_ok, bin1_ex, bin2_ex, ev_tb, tb1_ok, tb1_ex, ev_tru, tr1_bl, tr1_non, tr1_int, tr1_str, tr1_tup, tr1_frl, tr1_ex, ev_nil, ev_cons, cons1_ok, cons2_ok, cons1_ex, cons2_ex, ev_args, arg1_ok, arg1_ex, ev_and, and1_t, and1_f, and1_ex, ev_or, or1_t, or1_f, or1_ex, ev_not, not1_ok, not1_ex, ev_andV, andV1_t, andV1_f, andV1_ex, ev_orV, orV1_t, orV1_f, orV1_ex, ev_notV, notV1_ok, notV1_ex, ev_ifE, ifE1_t, ifE1_f, ev_if, ifS1_t, ifS1_f, ifS1_ex, ev_set, set1_ok, set1_ex, ev_drop, drop1_ok, drop1_ex, ev_ret, ret1_ok, ret1_ex, ev_retN, ev_par, par1_ok, ev_asg, asg1_ok, asg1_ex, asg2_ok, ev_tgN, ev_tgT, ev_tgCons, tgC_ok, ev_tgNil, ev_semOf, fin1_nx, fin1_rt, fin1_ex, gAdd_int, gSub_int, gMul_int, gFdiv_int, gMod_int, gNeg_int, gLt_int, gLe_int, gGt_int, gGe_int, gEq_int, gNe_int, gIs_bb, gIsN_bb, gIs_non, gIs_tn, gIs_in, gIs_on, gIs_sn, gIsN_non, gIsN_tn, gIsN_in, gIsN_on, gIsN_sn, gIx_tup0, gIx_tup1, gIx_tup2, gIx_tup3, gIx_tup4, gLen_tup, gLen_frl, gLen_str, gInt_int, gInt_bl, gAbs_int, gMax_int, gMin_int, gGcd_int, gLcm_int, gList_tup, gTuple_tup, ev_for, for1_ok, for1_ex, forT_ok, forB_nx, forB_ct, forB_bk, forB_rt, forB_ex, ev_it, it1_tup, it1_frl, it1_str, ev_itA, itA1_ok, ev_sl, sl1_ok, sl2_ok, sl3_ok, ev_noPart, ev_part, part1_ok, gSlc_tup, gSlc_str, ev_sto, sto1_ok, sto2_ok, ev_raise, ev_chain, ch1_ok, ch2_ok, ch3_t, ch3_f, kd_int, kd_bl, kd_str, kd_non, kd_tup, isi_int_int, isi_int_bool, isi_int_str, isi_int_tuple, isi_int_list, isi_int_dict, isi_bl_int, isi_bl_bool, isi_bl_str, isi_bl_tuple, isi_bl_list, isi_bl_dict, isi_str_int, isi_str_bool, isi_str_str, isi_str_tuple, isi_str_list, isi_str_dict, isi_non_int, isi_non_bool, isi_non_str, isi_non_tuple, isi_non_list, isi_non_dict, isi_tup_int, isi_tup_bool, isi_tup_str, isi_tup_tuple, isi_tup_list, isi_tup_dict, isi_frl_int, isi_frl_bool, isi_frl_str, isi_frl_tuple, isi_frl_list, isi_frl_dict, gTup_0, gLst_0, gTup_1, gLst_1, gTup_2, gLst_2, gTup_3, gLst_3, gTup_4, gLst_4, gTup_5, gLst_5, gTup_6, gLst_6, gTup_7, gLst_7, gTup_8, gLst_8, gTup_9, gLst_9, List.map_cons, List.map_nil, List.length_cons, List.length_nil, List.replicate_succ, List.replicate_zero, List.cons_append, List.nil_append, List.set_cons_succ, List.set_cons_zero, List.getElem?_cons_succ, List.getElem?_cons_zero, Nat.reduceAdd, Nat.reduceSub, Nat.zero_add, Nat.add_zero, Bool.not_true, Bool.not_false, decide_true, decide_false, ne_eq, not_false_eq_true, not_true_eq_false, a1, a2, a3, f]
theorem minus_ok (hP : P.natAbs < 2 ^ n) (hQ : Q.natAbs < 2 ^ n) (hR : R.natAbs < 2 ^ m) (hS : S.natAbs < 2 ^ m) (n0 : 0 < n) (m0 : 0 < m) (hn : n + m ≤ 9000) (q0 : Q * S ≠ 0) : sem_minus [fr P Q, fr R S] h = .ok (fr (nP (P * S - R * Q) (Q * S)) (nQ (P * S - R * Q) (Q * S))) h := by
  have a1 : mulOk P S := mulOk_bd hP hS n0 m0 (by omega)
  have a2 : mulOk R Q := mulOk_bd hR hQ m0 n0 (by omega)
  have a3 : mulOk Q S := mulOk_bd hQ hS n0 m0 (by omega)
  have f := ratio_arith (p := P * S - R * Q) q0 (bd_mul hQ hS) (by omega) hn h
  unfold sem_minus body_minus
  rw [fr, fr]
  simp -implicitDefEqProofs only [gc_same, gc_ex, gc_no, ev_seq, thenS_nx, thenS_rt, thenS_bk, thenS_ct, thenS_ex, ev_skip, ev_brk, ev_cnt, ev_var, ev_c, ev_un, un1_ok, ev_bin, bin1_ok, bin2_ok, bin1_ex, bin2_ex, ev_tb, tb1_ok, tb1_ex, ev_tru, tr1_bl, tr1_non, tr1_int, tr1_str, tr1_tup, tr1_frl, tr1_ex, ev_nil, ev_cons, cons1_ok, cons2_ok, cons1_ex, cons2_ex, ev_args, arg1_ok, arg1_ex, ev_and, and1_t, and1_f, and1_ex, ev_or, or1_t, or1_f, or1_ex, ev_not, not1_ok, not1_ex, ev_andV, andV1_t, andV1_f, andV1_ex, ev_orV, orV1_t, orV1_f, orV1_ex, ev_notV, notV1_ok, notV1_ex, ev_ifE, ifE1_t, ifE1_f, ev_if, ifS1_t, ifS1_f, ifS1_ex, ev_set, set1_ok, set1_ex, ev_drop, drop1_ok, drop1_ex, ev_ret, ret1_ok, ret1_ex, ev_retN, ev_par, par1_ok, ev_asg, asg1_ok, asg1_ex, asg2_ok, ev_tgN, ev_tgT, ev_tgCons, tgC_ok, ev_tgNil, ev_semOf, fin1_nx, fin1_rt, fin1_ex, gAdd_int, gSub_int, gMul_int, gFdiv_int, gMod_int, gNeg_int, gLt_int, gLe_int, gGt_int, gGe_int, gEq_int, gNe_int, gIs_bb, gIsN_bb, gIs_non, gIs_tn, gIs_in, gIs_on, gIs_sn, gIsN_non, gIsN_tn, gIsN_in, gIsN_on, gIsN_sn, gIx_tup0, gIx_tup1, gIx_tup2, gIx_tup3, gIx_tup4, gLen_tup, gLen_frl, gLen_str, gInt_int, gInt_bl, gAbs_int, gMax_int, gMin_int, gGcd_int, gLcm_int, gList_tup, gTuple_tup, ev_for, for1_ok, for1_ex, forT_ok, forB_nx, forB_ct, forB_bk, forB_rt, forB_ex, ev_it, it1_tup, it1_frl, it1_str, ev_itA, itA1_ok, ev_sl, sl1_ok, sl2_ok, sl3_ok, ev_noPart, ev_part, part1_ok, gSlc_tup, gSlc_str, ev_sto, sto1_ok, sto2_ok, ev_raise, ev_chain, ch1_ok, ch2_ok, ch3_t, ch3_f, kd_int, kd_bl, kd_str, kd_non, kd_tup, isi_int_int, isi_int_bool, isi_int_str, isi_int_tuple, isi_int_list, isi_int_dict, isi_bl_int, isi_bl_bool, isi_bl_str, isi_bl_tuple, isi_bl_list, isi_bl_dict, isi_str_int, isi_str_bool, isi_str_str, isi_str_tuple, isi_str_list, isi_str_dict, isi_non_int, isi_non_bool, isi_non_str, isi_non_tuple, isi_non_list, isi_non_dict, isi_tup_int, isi_tup_bool, isi_tup_str, isi_tup_tuple, isi_tup_list, isi_tup_dict, isi_frl_int, isi_frl_bool, isi_frl_str, isi_frl_tuple, isi_frl_list, isi_frl_dict, gTup_0, gLst_0, gTup_1, gLst_1, gTup_2, gLst_2, gTup_3, gLst_3, gTup_4, gLst_4, gTup_5, gLst_5, gTup_6, gLst_6, gTup_7, gLst_7, gTup_8, gLst_8, gTup_9, gLst_9, List.map_cons, List.map_nil, List.length_cons, List.length_nil, List.replicate_succ, List.replicate_zero, List.cons_append, List.nil_append, List.set_cons_succ, List.set_cons_zero, List.getElem?_cons_succ, List.getElem?_cons_zero, Nat.reduceAdd, Nat.reduceSub, Nat.zero_add, Nat.add_zero, Bool.not_true, Bool.not_false, decide_true, decide_false, ne_eq, not_false_eq_true, not_true_eq_false, a1, a2, a3, f]
theorem times_ok (hP : P.natAbs < 2 ^ n) (hQ : Q.natAbs < 2 ^ n) (hR : R.natAbs < 2 ^ m) (hS : S.natAbs < 2 ^ m) (n0 : 0 < n) (m0 : 0 < m) (hn : n + m ≤ 9000) (q0 : Q * S ≠ 0) : sem_times [fr P Q, fr R S] h = .ok (fr (nP (P * R) (Q * S)) (nQ (P * R) (Q * S))) h := by
  have a1 : mulOk P R := mulOk_bd hP hR n0 m0 (by omega)
  have a3 : mulOk Q S := mulOk_bd hQ hS n0 m0 (by omega)
  have f := ratio_arith (p := P * R) q0 (bd_mul hQ hS) (by omega) hn h
  unfold sem_times body_times
  rw [fr, fr]
  simp -implicitDefEqProofs only [gc_same, gc_ex, gc_no, ev_seq, thenS_nx, thenS_rt, thenS_bk, thenS_ct, thenS_ex, ev_skip, ev_brk, ev_cnt, ev_var, ev_c, ev_un, un1_ok, ev_bin, bin1_ok, bin2_ok, bin1_ex, bin2_ex, ev_tb, tb1_ok, tb1_ex, ev_tru, tr1_bl, tr1_non, tr1_int, tr1_str, tr1_tup, tr1_frl, tr1_ex, ev_nil, ev_cons, cons1_ok, cons2_ok, cons1_ex, cons2_ex, ev_args, arg1_ok, arg1_ex, ev_and, and1_t, and1_f, and1_ex, ev_or, or1_t, or1_f, or1_ex, ev_not, not1_ok, not1_ex, ev_andV, andV1_t, andV1_f, andV1_ex, ev_orV, orV1_t, orV1_f, orV1_ex, ev_notV, notV1_ok, notV1_ex, ev_ifE, ifE1_t, ifE1_f, ev_if, ifS1_t, ifS1_f, ifS1_ex, ev_set, set1_ok, set1_ex, ev_drop, drop1_ok, drop1_ex, ev_ret, ret1_ok, ret1_ex, ev_retN, ev_par, par1_ok, ev_asg, asg1_ok, asg1_ex, asg2_ok, ev_tgN, ev_tgT, ev_tgCons, tgC_ok, ev_tgNil, ev_semOf, fin1_nx, fin1_rt, fin1_ex, gAdd_int, gSub_int, gMul_int, gFdiv_int, gMod_int, gNeg_int, gLt_int, gLe_int, gGt_int, gGe_int, gEq_int, gNe_int, gIs_bb, gIsN_bb, gIs_non, gIs_tn, gIs_in, gIs_on, gIs_sn, gIsN_non, gIsN_tn, gIsN_in, gIsN_on, gIsN_sn, gIx_tup0, gIx_tup1, gIx_tup2, gIx_tup3, gIx_tup4, gLen_tup, gLen_frl, gLen_str, gInt_int, gInt_bl, gAbs_int, gMax_int, gMin_int, gGcd_int, gLcm_int, gList_tup, gTuple_tup, ev_for, for1_ok, for1_ex, forT_ok, forB_nx, forB_ct, forB_bk, forB_rt, forB_ex, ev_it, it1_tup, it1_frl, it1_str, ev_itA, itA1_ok, ev_sl, sl1_ok, sl2_ok, sl3_ok, ev_noPart, ev_part, part1_ok, gSlc_tup, gSlc_str, ev_sto, sto1_ok, sto2_ok, ev_raise, ev_chain, ch1_ok, ch2_ok, ch3_t, ch3_f, kd_int, kd_bl, kd_str, kd_non, kd_tup, isi_int_int, isi_int_bool, isi_int_str, isi_int_tuple, isi_int_list, isi_int_dict, isi_bl_int, isi_bl_bool, isi_bl_str, isi_bl_tuple, isi_bl_list, isi_bl_dict, isi_str_int, isi_str_bool, isi_str_str, isi_str_tuple, isi_str_list, isi_str_dict, isi_non_int, isi_non_bool, isi_non_str, isi_non_tuple, isi_non_list, isi_non_dict, isi_tup_int, isi_tup_bool, isi_tup_str, isi_tup_tuple, isi_tup_list, isi_tup_dict, isi_frl_int, isi_frl_bool, isi_frl_str, isi_frl_tuple, isi_frl_list, isi_frl_dict, gTup_0, gLst_0, gTup_1, gLst_1, gTup_2, gLst_2, gTup_3, gLst_3, gTup_4, gLst_4, gTup_5, gLst_5, gTup_6, gLst_6, gTup_7, gLst_7, gTup_8, gLst_8, gTup_9, gLst_9, List.map_cons, List.map_nil, List.length_cons, List.length_nil, List.replicate_succ, List.replicate_zero, List.cons_append, List.nil_append, List.set_cons_succ, List.set_cons_zero, List.getElem?_cons_succ, List.getElem?_cons_zero, Nat.reduceAdd, Nat.reduceSub, Nat.zero_add, Nat.add_zero, Bool.not_true, Bool.not_false, decide_true, decide_false, ne_eq, not_false_eq_true, not_true_eq_false, a1, a3, f]
theorem over_ok (hP : P.natAbs < 2 ^ n) (hQ : Q.natAbs < 2 ^ n) (hR : R.natAbs < 2 ^ m) (hS : S.natAbs < 2 ^ m) (n0 : 0 < n) (m0 : 0 < m) (hn : n + m ≤ 9000) (q0 : Q * R ≠ 0) (r0 : R ≠ 0) : sem_over [fr P Q, fr R S] h = .ok (fr (nP (P * S) (Q * R)) (nQ (P * S) (Q * R))) h := by
  have a1 : mulOk P S := mulOk_bd hP hS n0 m0 (by omega)
  have a3 : mulOk Q R := mulOk_bd hQ hR n0 m0 (by omega)
  have f := ratio_arith (p := P * S) q0 (bd_mul hQ hR) (by omega) hn h
  unfold sem_over body_over
  rw [fr, fr]
  simp -implicitDefEqProofs only [gc_same, gc_ex, gc_no, ev_seq, thenS_nx, thenS_rt, thenS_bk, thenS_ct, thenS_ex, ev_skip, ev_brk, ev_cnt, ev_var, ev_c, ev_un, un1_ok, ev_bin, bin1_ok, bin2_ok, bin1_ex, bin2_ex, ev_tb, tb1_ok, tb1_ex, ev_tru, tr1_bl, tr1_non, tr1_int, tr1_str, tr1_tup, tr1_frl, tr1_ex, ev_nil, ev_cons, cons1_ok, cons2_ok, cons1_ex, cons2_ex, ev_args, arg1_ok, arg1_ex, ev_and, and1_t, and1_f, and1_ex, ev_or, or1_t, or1_f, or1_ex, ev_not, not1_ok, not1_ex, ev_andV, andV1_t, andV1_f, andV1_ex, ev_orV, orV1_t, orV1_f, orV1_ex, ev_notV, notV1_ok, notV1_ex, ev_ifE, ifE1_t, ifE1_f, ev_if, ifS1_t, ifS1_f, ifS1_ex, ev_set, set1_ok, set1_ex, ev_drop, drop1_ok, drop1_ex, ev_ret, ret1_ok, ret1_ex, ev_retN, ev_par, par1_ok, ev_asg, asg1_ok, asg1_ex, asg2_ok, ev_tgN, ev_tgT, ev_tgCons, tgC_ok, ev_tgNil, ev_semOf, fin1_nx, fin1_rt, fin1_ex, gAdd_int, gSub_int, gMul_int, gFdiv_int, gMod_int, gNeg_int, gLt_int, gLe_int, gGt_int, gGe_int, gEq_int, gNe_int, gIs_bb, gIsN_bb, gIs_non, gIs_tn, gIs_in, gIs_on, gIs_sn, gIsN_non, gIsN_tn, gIsN_in, gIsN_on, gIsN_sn, gIx_tup0, gIx_tup1, gIx_tup2, gIx_tup3, gIx_tup4, gLen_tup, gLen_frl, gLen_str, gInt_int, gInt_bl, gAbs_int, gMax_int, gMin_int, gGcd_int, gLcm_int, gList_tup, gTuple_tup, ev_for, for1_ok, for1_ex, forT_ok, forB_nx, forB_ct, forB_bk, forB_rt, forB_ex, ev_it, it1_tup, it1_frl, it1_str, ev_itA, itA1_ok, ev_sl, sl1_ok, sl2_ok, sl3_ok, ev_noPart, ev_part, part1_ok, gSlc_tup, gSlc_str, ev_sto, sto1_ok, sto2_ok, ev_raise, ev_chain, ch1_ok, ch2_ok, ch3_t, ch3_f, kd_int, kd_bl, kd_str, kd_non, kd_tup, isi_int_int, isi_int_bool, isi_int_str, isi_int_tuple, isi_int_list, isi_int_dict, isi_bl_int, isi_bl_bool, isi_bl_str, isi_bl_tuple, isi_bl_list, isi_bl_dict, isi_str_int, isi_str_bool, isi_str_str, isi_str_tuple, isi_str_list, isi_str_dict, isi_non_int, isi_non_bool, isi_non_str, isi_non_tuple, isi_non_list, isi_non_dict, isi_tup_int, isi_tup_bool, isi_tup_str, isi_tup_tuple, isi_tup_list, isi_tup_dict, isi_frl_int, isi_frl_bool, isi_frl_str, isi_frl_tuple, isi_frl_list, isi_frl_dict, gTup_0, gLst_0, gTup_1, gLst_1, gTup_2, gLst_2, gTup_3, gLst_3, gTup_4, gLst_4, gTup_5, gLst_5, gTup_6, gLst_6, gTup_7, gLst_7, gTup_8, gLst_8, gTup_9, gLst_9, List.map_cons, List.map_nil, List.length_cons, List.length_nil, List.replicate_succ, List.replicate_zero, List.cons_append, List.nil_append, List.set_cons_succ, List.set_cons_zero, List.getElem?_cons_succ, List.getElem?_cons_zero, Nat.reduceAdd, Nat.reduceSub, Nat.zero_add, Nat.add_zero, Bool.not_true, Bool.not_false, decide_true, decide_false, ne_eq, not_false_eq_true, not_true_eq_false, a1, a3, f, r0]
theorem over_zero : sem_over [fr P Q, fr 0 S] h = .ex ⟨"ZeroDenominator", some [("number", .int P)]⟩ h := by
  unfold sem_over body_over
  rw [fr, fr]
  simp -implicitDefEqProofs only [gc_same, gc_ex, gc_no, ev_seq, thenS_nx, thenS_rt, thenS_bk, thenS_ct, thenS_ex, ev_skip, ev_brk, ev_cnt, ev_var, ev_c, ev_un, un1_ok, ev_bin, bin1_ok, bin2_ok, bin1_ex, bin2_ex, ev_tb, tb1_ok, tb1_ex, ev_tru, tr1_bl, tr1_non, tr1_int, tr1_str, tr1_tup, tr1_frl, tr1_ex, ev_nil, ev_cons, cons1_ok, cons2_ok, cons1_ex, cons2_ex, ev_args, arg1_ok, arg1_ex, ev_and, and1_t, and1_f, and1_ex, ev_or, or1_t, or1_f, or1_ex, ev_not, not1_ok, not1_ex, ev_andV, andV1_t, andV1_f, andV1_ex, ev_orV, orV1_t, orV1_f, orV1_ex, ev_notV, notV1_ok, notV1_ex, ev_ifE, ifE1_t, ifE1_f, ev_if, ifS1_t, ifS1_f, ifS1_ex, ev_set, set1_ok, set1_ex, ev_drop, drop1_ok, drop1_ex, ev_ret, ret1_ok, ret1_ex, ev_retN, ev_par, par1_ok, ev_asg, asg1_ok, asg1_ex, asg2_ok, ev_tgN, ev_tgT, ev_tgCons, tgC_ok, ev_tgNil, ev_semOf, fin1_nx, fin1_rt, fin1_ex, gAdd_int, gSub_int, gMul_int, gFdiv_int, gMod_int, gNeg_int, gLt_int, gLe_int, gGt_int, gGe_int, gEq_int, gNe_int, gIs_bb, gIsN_bb, gIs_non, gIs_tn, gIs_in, gIs_on, gIs_sn, gIsN_non, gIsN_tn, gIsN_in, gIsN_on, gIsN_sn, gIx_tup0, gIx_tup1, gIx_tup2, gIx_tup3, gIx_tup4, gLen_tup, gLen_frl, gLen_str, gInt_int, gInt_bl, gAbs_int, gMax_int, gMin_int, gGcd_int, gLcm_int, gList_tup, gTuple_tup, ev_for, for1_ok, for1_ex, forT_ok, forB_nx, forB_ct, forB_bk, forB_rt, forB_ex, ev_it, it1_tup, it1_frl, it1_str, ev_itA, itA1_ok, ev_sl, sl1_ok, sl2_ok, sl3_ok, ev_noPart, ev_part, part1_ok, gSlc_tup, gSlc_str, ev_sto, sto1_ok, sto2_ok, ev_raise, ev_chain, ch1_ok, ch2_ok, ch3_t, ch3_f, kd_int, kd_bl, kd_str, kd_non, kd_tup, isi_int_int, isi_int_bool, isi_int_str, isi_int_tuple, isi_int_list, isi_int_dict, isi_bl_int, isi_bl_bool, isi_bl_str, isi_bl_tuple, isi_bl_list, isi_bl_dict, isi_str_int, isi_str_bool, isi_str_str, isi_str_tuple, isi_str_list, isi_str_dict, isi_non_int, isi_non_bool, isi_non_str, isi_non_tuple, isi_non_list, isi_non_dict, isi_tup_int, isi_tup_bool, isi_tup_str, isi_tup_tuple, isi_tup_list, isi_tup_dict, isi_frl_int, isi_frl_bool, isi_frl_str, isi_frl_tuple, isi_frl_list, isi_frl_dict, gTup_0, gLst_0, gTup_1, gLst_1, gTup_2, gLst_2, gTup_3, gLst_3, gTup_4, gLst_4, gTup_5, gLst_5, gTup_6, gLst_6, gTup_7, gLst_7, gTup_8, gLst_8, gTup_9, gLst_9, List.map_cons, List.map_nil, List.length_cons, List.length_nil, List.replicate_succ, List.replicate_zero, List.cons_append, List.nil_append, List.set_cons_succ, List.set_cons_zero, List.getElem?_cons_succ, List.getElem?_cons_zero, Nat.reduceAdd, Nat.reduceSub, Nat.zero_add, Nat.add_zero, Bool.not_true, Bool.not_false, decide_true, decide_false, ne_eq, not_false_eq_true, not_true_eq_false, raise1_ok]
  rfl
def cmpI (a b : Int) : Int := if a < b then -1 else if b < a then 1 else 0
theorem compare_ok (a1 : mulOk P S) (a2 : mulOk R Q) : sem_compare [fr P Q, fr R S] h = .ok (.int (cmpI (P * S) (R * Q))) h := by
  unfold sem_compare body_compare cmpI
  rw [fr, fr]
  by_cases c : P * S < R * Q
  · simp -implicitDefEqProofs only [gc_same, gc_ex, gc_no, ev_seq, thenS_nx, thenS_rt, thenS_bk, thenS_ct, thenS_ex, ev_skip, ev_brk, ev_cnt, ev_var, ev_c, ev_un, un1_ok, ev_bin, bin1_ok, bin2_ok, bin1_ex, bin2_ex, ev_tb, tb1_ok, tb1_ex, ev_tru, tr1_bl, tr1_non, tr1_int, tr1_str, tr1_tup, tr1_frl, tr1_ex, ev_nil, ev_cons, cons1_ok, cons2_ok, cons1_ex, cons2_ex, ev_args, arg1_ok, arg1_ex, ev_and, and1_t, and1_f, and1_ex, ev_or, or1_t, or1_f, or1_ex, ev_not, not1_ok, not1_ex, ev_andV, andV1_t, andV1_f, andV1_ex, ev_orV, orV1_t, orV1_f, orV1_ex, ev_notV, notV1_ok, notV1_ex, ev_ifE, ifE1_t, ifE1_f, ev_if, ifS1_t, ifS1_f, ifS1_ex, ev_set, set1_ok, set1_ex, ev_drop, drop1_ok, drop1_ex, ev_ret, ret1_ok, ret1_ex, ev_retN, ev_par, par1_ok, ev_asg, asg1_ok, asg1_ex, asg2_ok, ev_tgN, ev_tgT, ev_tgCons, tgC_ok, ev_tgNil, ev_semOf, fin1_nx, fin1_rt, fin1_ex, gAdd_int, gSub_int, gMul_int, gFdiv_int, gMod_int, gNeg_int, gLt_int, gLe_int, gGt_int, gGe_int, gEq_int, gNe_int, gIs_bb, gIsN_bb, gIs_non, gIs_tn, gIs_in, gIs_on, gIs_sn, gIsN_non, gIsN_tn, gIsN_in, gIsN_on, gIsN_sn, gIx_tup0, gIx_tup1, gIx_tup2, gIx_tup3, gIx_tup4, gLen_tup, gLen_frl, gLen_str, gInt_int, gInt_bl, gAbs_int, gMax_int, gMin_int, gGcd_int, gLcm_int, gList_tup, gTuple_tup, ev_for, for1_ok, for1_ex, forT_ok, forB_nx, forB_ct, forB_bk, forB_rt, forB_ex, ev_it, it1_tup, it1_frl, it1_str, ev_itA, itA1_ok, ev_sl, sl1_ok, sl2_ok, sl3_ok, ev_noPart, ev_part, part1_ok, gSlc_tup, gSlc_str, ev_sto, sto1_ok, sto2_ok, ev_raise, ev_chain, ch1_ok, ch2_ok, ch3_t, ch3_f, kd_int, kd_bl, kd_str, kd_non, kd_tup, isi_int_int, isi_int_bool, isi_int_str, isi_int_tuple, isi_int_list, isi_int_dict, isi_bl_int, isi_bl_bool, isi_bl_str, isi_bl_tuple, isi_bl_list, isi_bl_dict, isi_str_int, isi_str_bool, isi_str_str, isi_str_tuple, isi_str_list, isi_str_dict, isi_non_int, isi_non_bool, isi_non_str, isi_non_tuple, isi_non_list, isi_non_dict, isi_tup_int, isi_tup_bool, isi_tup_str, isi_tup_tuple, isi_tup_list, isi_tup_dict, isi_frl_int, isi_frl_bool, isi_frl_str, isi_frl_tuple, isi_frl_list, isi_frl_dict, gTup_0, gLst_0, gTup_1, gLst_1, gTup_2, gLst_2, gTup_3, gLst_3, gTup_4, gLst_4, gTup_5, gLst_5, gTup_6, gLst_6, gTup_7, gLst_7, gTup_8, gLst_8, gTup_9, gLst_9, List.map_cons, List.map_nil, List.length_cons, List.length_nil, List.replicate_succ, List.replicate_zero, List.cons_append, List.nil_append, List.set_cons_succ, List.set_cons_zero, List.getElem?_cons_succ, List.getElem?_cons_zero, Nat.reduceAdd, Nat.reduceSub, Nat.zero_add, Nat.add_zero, Bool.not_true, Bool.not_false, decide_true, decide_false, ne_eq, not_false_eq_true, not_true_eq_false, a1, a2, c, if_true]
  · by_cases c2 : R * Q < P * S
    · simp -implicitDefEqProofs only [gc_same, gc_ex, gc_no, ev_seq, thenS_nx, thenS_rt, thenS_bk, thenS_ct, thenS_ex, ev_skip, ev_brk, ev_cnt, ev_var, ev_c, ev_un, un1_ok, ev_bin, bin1_ok, bin2_ok, bin1_ex, bin2_ex, ev_tb, tb1_ok, tb1_ex, ev_tru, tr1_bl, tr1_non, tr1_int, tr1_str, tr1_tup, tr1_frl, tr1_ex, ev_nil, ev_cons, cons1_ok, cons2_ok, cons1_ex, cons2_ex, ev_args, arg1_ok, arg1_ex, ev_and, and1_t, and1_f, and1_ex, ev_or, or1_t, or1_f, or1_ex, ev_not, not1_ok, not1_ex, ev_andV, andV1_t, andV1_f, andV1_ex, ev_orV, orV1_t, orV1_f, orV1_ex, ev_notV, notV1_ok, notV1_ex, ev_ifE, ifE1_t, ifE1_f, ev_if, ifS1_t, ifS1_f, ifS1_ex, ev_set, set1_ok, set1_ex, ev_drop, drop1_ok, drop1_ex, ev_ret, ret1_ok, ret1_ex, ev_retN, ev_par, par1_ok, ev_asg, asg1_ok, asg1_ex, asg2_ok, ev_tgN, ev_tgT, ev_tgCons, tgC_ok, ev_tgNil, ev_semOf, fin1_nx, fin1_rt, fin1_ex, gAdd_int, gSub_int, gMul_int, gFdiv_int, gMod_int, gNeg_int, gLt_int, gLe_int, gGt_int, gGe_int, gEq_int, gNe_int, gIs_bb, gIsN_bb, gIs_non, gIs_tn, gIs_in, gIs_on, gIs_sn, gIsN_non, gIsN_tn, gIsN_in, gIsN_on, gIsN_sn, gIx_tup0, gIx_tup1, gIx_tup2, gIx_tup3, gIx_tup4, gLen_tup, gLen_frl, gLen_str, gInt_int, gInt_bl, gAbs_int, gMax_int, gMin_int, gGcd_int, gLcm_int, gList_tup, gTuple_tup, ev_for, for1_ok, for1_ex, forT_ok, forB_nx, forB_ct, forB_bk, forB_rt, forB_ex, ev_it, it1_tup, it1_frl, it1_str, ev_itA, itA1_ok, ev_sl, sl1_ok, sl2_ok, sl3_ok, ev_noPart, ev_part, part1_ok, gSlc_tup, gSlc_str, ev_sto, sto1_ok, sto2_ok, ev_raise, ev_chain, ch1_ok, ch2_ok, ch3_t, ch3_f, kd_int, kd_bl, kd_str, kd_non, kd_tup, isi_int_int, isi_int_bool, isi_int_str, isi_int_tuple, isi_int_list, isi_int_dict, isi_bl_int, isi_bl_bool, isi_bl_str, isi_bl_tuple, isi_bl_list, isi_bl_dict, isi_str_int, isi_str_bool, isi_str_str, isi_str_tuple, isi_str_list, isi_str_dict, isi_non_int, isi_non_bool, isi_non_str, isi_non_tuple, isi_non_list, isi_non_dict, isi_tup_int, isi_tup_bool, isi_tup_str, isi_tup_tuple, isi_tup_list, isi_tup_dict, isi_frl_int, isi_frl_bool, isi_frl_str, isi_frl_tuple, isi_frl_list, isi_frl_dict, gTup_0, gLst_0, gTup_1, gLst_1, gTup_2, gLst_2, gTup_3, gLst_3, gTup_4, gLst_4, gTup_5, gLst_5, gTup_6, gLst_6, gTup_7, gLst_7, gTup_8, gLst_8, gTup_9, gLst_9, List.map_cons, List.map_nil, List.length_cons, List.length_nil, List.replicate_succ, List.replicate_zero, List.cons_append, List.nil_append, List.set_cons_succ, List.set_cons_zero, List.getElem?_cons_succ, List.getElem?_cons_zero, Nat.reduceAdd, Nat.reduceSub, Nat.zero_add, Nat.add_zero, Bool.not_true, Bool.not_false, decide_true, decide_false, ne_eq, not_false_eq_true, not_true_eq_false, a1, a2, c, c2, if_true, if_false]
    · simp -implicitDefEqProofs only [gc_same, gc_ex, gc_no, ev_seq, thenS_nx, thenS_rt, thenS_bk, thenS_ct, thenS_ex, ev_skip, ev_brk, ev_cnt, ev_var, ev_c, ev_un, un1_ok, ev_bin, bin1_ok, bin2_ok, bin1_ex, bin2_ex, ev_tb, tb1_ok, tb1_ex, ev_tru, tr1_bl, tr1_non, tr1_int, tr1_str, tr1_tup, tr1_frl, tr1_ex, ev_nil, ev_cons, cons1_ok, cons2_ok, cons1_ex, cons2_ex, ev_args, arg1_ok, arg1_ex, ev_and, and1_t, and1_f, and1_ex, ev_or, or1_t, or1_f, or1_ex, ev_not, not1_ok, not1_ex, ev_andV, andV1_t, andV1_f, andV1_ex, ev_orV, orV1_t, orV1_f, orV1_ex, ev_notV, notV1_ok, notV1_ex, ev_ifE, ifE1_t, ifE1_f, ev_if, ifS1_t, ifS1_f, ifS1_ex, ev_set, set1_ok, set1_ex, ev_drop, drop1_ok, drop1_ex, ev_ret, ret1_ok, ret1_ex, ev_retN, ev_par, par1_ok, ev_asg, asg1_ok, asg1_ex, asg2_ok, ev_tgN, ev_tgT, ev_tgCons, tgC_ok, ev_tgNil, ev_semOf, fin1_nx, fin1_rt, fin1_ex, gAdd_int, gSub_int, gMul_int, gFdiv_int, gMod_int, gNeg_int, gLt_int, gLe_int, gGt_int, gGe_int, gEq_int, gNe_int, gIs_bb, gIsN_bb, gIs_non, gIs_tn, gIs_in, gIs_on, gIs_sn, gIsN_non, gIsN_tn, gIsN_in, gIsN_on, gIsN_sn, gIx_tup0, gIx_tup1, gIx_tup2, gIx_tup3, gIx_tup4, gLen_tup, gLen_frl, gLen_str, gInt_int, gInt_bl, gAbs_int, gMax_int, gMin_int, gGcd_int, gLcm_int, gList_tup, gTuple_tup, ev_for, for1_ok, for1_ex, forT_ok, forB_nx, forB_ct, forB_bk, forB_rt, forB_ex, ev_it, it1_tup, it1_frl, it1_str, ev_itA, itA1_ok, ev_sl, sl1_ok, sl2_ok, sl3_ok, ev_noPart, ev_part, part1_ok, gSlc_tup, gSlc_str, ev_sto, sto1_ok, sto2_ok, ev_raise, ev_chain, ch1_ok, ch2_ok, ch3_t, ch3_f, kd_int, kd_bl, kd_str, kd_non, kd_tup, isi_int_int, isi_int_bool, isi_int_str, isi_int_tuple, isi_int_list, isi_int_dict, isi_bl_int, isi_bl_bool, isi_bl_str, isi_bl_tuple, isi_bl_list, isi_bl_dict, isi_str_int, isi_str_bool, isi_str_str, isi_str_tuple, isi_str_list, isi_str_dict, isi_non_int, isi_non_bool, isi_non_str, isi_non_tuple, isi_non_list, isi_non_dict, isi_tup_int, isi_tup_bool, isi_tup_str, isi_tup_tuple, isi_tup_list, isi_tup_dict, isi_frl_int, isi_frl_bool, isi_frl_str, isi_frl_tuple, isi_frl_list, isi_frl_dict, gTup_0, gLst_0, gTup_1, gLst_1, gTup_2, gLst_2, gTup_3, gLst_3, gTup_4, gLst_4, gTup_5, gLst_5, gTup_6, gLst_6, gTup_7, gLst_7, gTup_8, gLst_8, gTup_9, gLst_9, List.map_cons, List.map_nil, List.length_cons, List.length_nil, List.replicate_succ, List.replicate_zero, List.cons_append, List.nil_append, List.set_cons_succ, List.set_cons_zero, List.getElem?_cons_succ, List.getElem?_cons_zero, Nat.reduceAdd, Nat.reduceSub, Nat.zero_add, Nat.add_zero, Bool.not_true, Bool.not_false, decide_true, decide_false, ne_eq, not_false_eq_true, not_true_eq_false, a1, a2, c, c2, if_true, if_false]
end
end Mill
end

section
set_option Elab.async false
set_option linter.all false
set_option maxRecDepth 100000
set_option maxHeartbeats 1000000
namespace Mill
open PySem DL
theorem gc_set {h : DHp} {j : Nat} {o : DO} {d : D} : gc h (.ok d (h.set j o)) = .ok d (h.set j o) := gc_len (List.length_set ..)
theorem law_is_whole_int (i : Int) (h : DHp) : sem__law_is_whole [.int i] h = .ok (.bl true) h := by
  unfold sem__law_is_whole body__law_is_whole
  simp -implicitDefEqProofs only [gc_same, gc_ex, gc_no, ev_seq, thenS_nx, thenS_rt, thenS_bk, thenS_ct, thenS_ex, ev_skip, ev_brk, ev_cnt, ev_var, ev_c, ev_un, un1_ok, ev_bin, bin1_ok, bin2_ok, bin1_ex, bin2_ex, ev_tb, tb1_ok, tb1_ex, ev_tru, tr1_bl, tr1_non, tr1_int, tr1_str, tr1_tup, tr1_frl, tr1_ex, ev_nil, ev_cons, cons1_ok, cons2_ok, cons1_ex, cons2_ex, ev_args, arg1_ok, arg1_ex, ev_and, and1_t, and1_f, and1_ex, ev_or, or1_t, or1_f, or1_ex, ev_not, not1_ok, not1_ex, ev_andV, andV1_t, andV1_f, andV1_ex, ev_orV, orV1_t, orV1_f, orV1_ex, ev_notV, notV1_ok, notV1_ex, ev_ifE, ifE1_t, ifE1_f, ev_if, ifS1_t, ifS1_f, ifS1_ex, ev_set, set1_ok, set1_ex, ev_drop, drop1_ok, drop1_ex, ev_ret, ret1_ok, ret1_ex, ev_retN, ev_par, par1_ok, ev_asg, asg1_ok, asg1_ex, asg2_ok, ev_tgN, ev_tgT, ev_tgCons, tgC_ok, ev_tgNil, ev_semOf, fin1_nx, fin1_rt, fin1_ex, gAdd_int, gSub_int, gMul_int, gFdiv_int, gMod_int, gNeg_int, gLt_int, gLe_int, gGt_int, gGe_int, gEq_int, gNe_int, gIs_bb, gIsN_bb, gIs_non, gIs_tn, gIs_in, gIs_on, gIs_sn, gIsN_non, gIsN_tn, gIsN_in, gIsN_on, gIsN_sn, gIx_tup0, gIx_tup1, gIx_tup2, gIx_tup3, gIx_tup4, gLen_tup, gLen_frl, gLen_str, gInt_int, gInt_bl, gAbs_int, gMax_int, gMin_int, gGcd_int, gLcm_int, gList_tup, gTuple_tup, ev_for, for1_ok, for1_ex, forT_ok, forB_nx, forB_ct, forB_bk, forB_rt, forB_ex, ev_it, it1_tup, it1_frl, it1_str, ev_itA, itA1_ok, ev_sl, sl1_ok, sl2_ok, sl3_ok, ev_noPart, ev_part, part1_ok, gSlc_tup, gSlc_str, ev_sto, sto1_ok, sto2_ok, ev_raise, ev_chain, ch1_ok, ch2_ok, ch3_t, ch3_f, kd_int, kd_bl, kd_str, kd_non, kd_tup, isi_int_int, isi_int_bool, isi_int_str, isi_int_tuple, isi_int_list, isi_int_dict, isi_bl_int, isi_bl_bool, isi_bl_str, isi_bl_tuple, isi_bl_list, isi_bl_dict, isi_str_int, isi_str_bool, isi_str_str, isi_str_tuple, isi_str_list, isi_str_dict, isi_non_int, isi_non_bool, isi_non_str, isi_non_tuple, isi_non_list, isi_non_dict, isi_tup_int, isi_tup_bool, isi_tup_str, isi_tup_tuple, isi_tup_list, isi_tup_dict, isi_frl_int, isi_frl_bool, isi_frl_str, isi_frl_tuple, isi_frl_list, isi_frl_dict, gTup_0, gLst_0, gTup_1, gLst_1, gTup_2, gLst_2, gTup_3, gLst_3, gTup_4, gLst_4, gTup_5, gLst_5, gTup_6, gLst_6, gTup_7, gLst_7, gTup_8, gLst_8, gTup_9, gLst_9, List.map_cons, List.map_nil, List.length_cons, List.length_nil, List.replicate_succ, List.replicate_zero, List.cons_append, List.nil_append, List.set_cons_succ, List.set_cons_zero, List.getElem?_cons_succ, List.getElem?_cons_zero, Nat.reduceAdd, Nat.reduceSub, Nat.zero_add, Nat.add_zero, Bool.not_true, Bool.not_false, decide_true, decide_false, ne_eq, not_false_eq_true, not_true_eq_false]
/-! Euclid -/
theorem gcd_two (x y : Nat) : Nat.gcd x y = Nat.gcd (x % y) (y % (x % y)) := by
  rw [Nat.gcd_comm x y, Nat.gcd_rec y x, Nat.gcd_comm (x % y) y, Nat.gcd_comm y (x % y), Nat.gcd_rec (x % y) y, Nat.gcd_comm]
theorem gcd_one (x y : Nat) (h : x % y = 0) : Nat.gcd x y = y := by
  rw [Nat.gcd_comm x y, Nat.gcd_rec y x, h, Nat.gcd_zero_left]
theorem euclid (h : DHp) : ∀ (n x y : Nat) (w : Option D) (L : List D), y < 2 ^ n → 2 * n + 1 ≤ L.length →
    ∃ w', dForL (fun _ => True) (tgN 2) (dSeq (dIf (dTb (dBin gEq (dVar 1) (dC (.int 0)))) dBrk dSkip) (dPar 0 1 (dCons (dVar 1) (dCons (dBin gMod (dArgs gInt (dCons (dVar 0) dNil)) (dVar 1)) dNil)))) L
      [some (.int (x : Nat)), some (.int (y : Nat)), w] h = .nx [some (.int (Nat.gcd x y : Nat)), some (.int 0), w'] h := by
  intro n
  induction n with
  | zero =>
    intro x y w L hy hL
    have y0 : y = 0 := by omega
    subst y0
    match L, hL with
    | d :: L, _ => exact ⟨some d, by rw [dForL_cons trivial]; simp -implicitDefEqProofs only [gc_same, gc_ex, gc_no, ev_seq, thenS_nx, thenS_rt, thenS_bk, thenS_ct, thenS_ex, ev_skip, ev_brk, ev_cnt, ev_var, ev_c, ev_un, un1_ok, ev_bin, bin1_ok, bin2_ok, bin1_ex, bin2_ex, ev_tb, tb1_ok, tb1_ex, ev_tru, tr1_bl, tr1_non, tr1_int, tr1_str, tr1_tup, tr1_frl, tr1_ex, ev_nil, ev_cons, cons1_ok, cons2_ok, cons1_ex, cons2_ex, ev_args, arg1_ok, arg1_ex, ev_and, and1_t, and1_f, and1_ex, ev_or, or1_t, or1_f, or1_ex, ev_not, not1_ok, not1_ex, ev_andV, andV1_t, andV1_f, andV1_ex, ev_orV, orV1_t, orV1_f, orV1_ex, ev_notV, notV1_ok, notV1_ex, ev_ifE, ifE1_t, ifE1_f, ev_if, ifS1_t, ifS1_f, ifS1_ex, ev_set, set1_ok, set1_ex, ev_drop, drop1_ok, drop1_ex, ev_ret, ret1_ok, ret1_ex, ev_retN, ev_par, par1_ok, ev_asg, asg1_ok, asg1_ex, asg2_ok, ev_tgN, ev_tgT, ev_tgCons, tgC_ok, ev_tgNil, ev_semOf, fin1_nx, fin1_rt, fin1_ex, gAdd_int, gSub_int, gMul_int, gFdiv_int, gMod_int, gNeg_int, gLt_int, gLe_int, gGt_int, gGe_int, gEq_int, gNe_int, gIs_bb, gIsN_bb, gIs_non, gIs_tn, gIs_in, gIs_on, gIs_sn, gIsN_non, gIsN_tn, gIsN_in, gIsN_on, gIsN_sn, gIx_tup0, gIx_tup1, gIx_tup2, gIx_tup3, gIx_tup4, gLen_tup, gLen_frl, gLen_str, gInt_int, gInt_bl, gAbs_int, gMax_int, gMin_int, gGcd_int, gLcm_int, gList_tup, gTuple_tup, ev_for, for1_ok, for1_ex, forT_ok, forB_nx, forB_ct, forB_bk, forB_rt, forB_ex, ev_it, it1_tup, it1_frl, it1_str, ev_itA, itA1_ok, ev_sl, sl1_ok, sl2_ok, sl3_ok, ev_noPart, ev_part, part1_ok, gSlc_tup, gSlc_str, ev_sto, sto1_ok, sto2_ok, ev_raise, ev_chain, ch1_ok, ch2_ok, ch3_t, ch3_f, kd_int, kd_bl, kd_str, kd_non, kd_tup, isi_int_int, isi_int_bool, isi_int_str, isi_int_tuple, isi_int_list, isi_int_dict, isi_bl_int, isi_bl_bool, isi_bl_str, isi_bl_tuple, isi_bl_list, isi_bl_dict, isi_str_int, isi_str_bool, isi_str_str, isi_str_tuple, isi_str_list, isi_str_dict, isi_non_int, isi_non_bool, isi_non_str, isi_non_tuple, isi_non_list, isi_non_dict, isi_tup_int, isi_tup_bool, isi_tup_str, isi_tup_tuple, isi_tup_list, isi_tup_dict, isi_frl_int, isi_frl_bool, isi_frl_str, isi_frl_tuple, isi_frl_list, isi_frl_dict, gTup_0, gLst_0, gTup_1, gLst_1, gTup_2, gLst_2, gTup_3, gLst_3, gTup_4, gLst_4, gTup_5, gLst_5, gTup_6, gLst_6, gTup_7, gLst_7, gTup_8, gLst_8, gTup_9, gLst_9, List.map_cons, List.map_nil, List.length_cons, List.length_nil, List.replicate_succ, List.replicate_zero, List.cons_append, List.nil_append, List.set_cons_succ, List.set_cons_zero, List.getElem?_cons_succ, List.getElem?_cons_zero, Nat.reduceAdd, Nat.reduceSub, Nat.zero_add, Nat.add_zero, Bool.not_true, Bool.not_false, decide_true, decide_false, ne_eq, not_false_eq_true, not_true_eq_false, Nat.gcd_zero_right]; rfl⟩
  | succ n ih =>
    intro x y w L hy hL
    match L, hL with
    | d :: e :: L, hL =>
      by_cases y0 : y = 0
      · subst y0
        exact ⟨some d, by rw [dForL_cons trivial]; simp -implicitDefEqProofs only [gc_same, gc_ex, gc_no, ev_seq, thenS_nx, thenS_rt, thenS_bk, thenS_ct, thenS_ex, ev_skip, ev_brk, ev_cnt, ev_var, ev_c, ev_un, un1_ok, ev_bin, bin1_ok, bin2_ok, bin1_ex, bin2_ex, ev_tb, tb1_ok, tb1_ex, ev_tru, tr1_bl, tr1_non, tr1_int, tr1_str, tr1_tup, tr1_frl, tr1_ex, ev_nil, ev_cons, cons1_ok, cons2_ok, cons1_ex, cons2_ex, ev_args, arg1_ok, arg1_ex, ev_and, and1_t, and1_f, and1_ex, ev_or, or1_t, or1_f, or1_ex, ev_not, not1_ok, not1_ex, ev_andV, andV1_t, andV1_f, andV1_ex, ev_orV, orV1_t, orV1_f, orV1_ex, ev_notV, notV1_ok, notV1_ex, ev_ifE, ifE1_t, ifE1_f, ev_if, ifS1_t, ifS1_f, ifS1_ex, ev_set, set1_ok, set1_ex, ev_drop, drop1_ok, drop1_ex, ev_ret, ret1_ok, ret1_ex, ev_retN, ev_par, par1_ok, ev_asg, asg1_ok, asg1_ex, asg2_ok, ev_tgN, ev_tgT, ev_tgCons, tgC_ok, ev_tgNil, ev_semOf, fin1_nx, fin1_rt, fin1_ex, gAdd_int, gSub_int, gMul_int, gFdiv_int, gMod_int, gNeg_int, gLt_int, gLe_int, gGt_int, gGe_int, gEq_int, gNe_int, gIs_bb, gIsN_bb, gIs_non, gIs_tn, gIs_in, gIs_on, gIs_sn, gIsN_non, gIsN_tn, gIsN_in, gIsN_on, gIsN_sn, gIx_tup0, gIx_tup1, gIx_tup2, gIx_tup3, gIx_tup4, gLen_tup, gLen_frl, gLen_str, gInt_int, gInt_bl, gAbs_int, gMax_int, gMin_int, gGcd_int, gLcm_int, gList_tup, gTuple_tup, ev_for, for1_ok, for1_ex, forT_ok, forB_nx, forB_ct, forB_bk, forB_rt, forB_ex, ev_it, it1_tup, it1_frl, it1_str, ev_itA, itA1_ok, ev_sl, sl1_ok, sl2_ok, sl3_ok, ev_noPart, ev_part, part1_ok, gSlc_tup, gSlc_str, ev_sto, sto1_ok, sto2_ok, ev_raise, ev_chain, ch1_ok, ch2_ok, ch3_t, ch3_f, kd_int, kd_bl, kd_str, kd_non, kd_tup, isi_int_int, isi_int_bool, isi_int_str, isi_int_tuple, isi_int_list, isi_int_dict, isi_bl_int, isi_bl_bool, isi_bl_str, isi_bl_tuple, isi_bl_list, isi_bl_dict, isi_str_int, isi_str_bool, isi_str_str, isi_str_tuple, isi_str_list, isi_str_dict, isi_non_int, isi_non_bool, isi_non_str, isi_non_tuple, isi_non_list, isi_non_dict, isi_tup_int, isi_tup_bool, isi_tup_str, isi_tup_tuple, isi_tup_list, isi_tup_dict, isi_frl_int, isi_frl_bool, isi_frl_str, isi_frl_tuple, isi_frl_list, isi_frl_dict, gTup_0, gLst_0, gTup_1, gLst_1, gTup_2, gLst_2, gTup_3, gLst_3, gTup_4, gLst_4, gTup_5, gLst_5, gTup_6, gLst_6, gTup_7, gLst_7, gTup_8, gLst_8, gTup_9, gLst_9, List.map_cons, List.map_nil, List.length_cons, List.length_nil, List.replicate_succ, List.replicate_zero, List.cons_append, List.nil_append, List.set_cons_succ, List.set_cons_zero, List.getElem?_cons_succ, List.getElem?_cons_zero, Nat.reduceAdd, Nat.reduceSub, Nat.zero_add, Nat.add_zero, Bool.not_true, Bool.not_false, decide_true, decide_false, ne_eq, not_false_eq_true, not_true_eq_false, Nat.gcd_zero_right]; rfl⟩
      · have c1 : ¬ ((y : Int) = 0) := by omega
        have m1 : ∀ a b : Nat, ((a : Int)).fmod (b : Int) = ((a % b : Nat) : Int) := fun a b => by rw [Int.fmod_eq_emod_of_nonneg _ (by omega)]; rfl
        have c1' : (y : Int) ≠ 0 := c1
        by_cases z0 : x % y = 0
        · refine ⟨some e, ?_⟩
          rw [dForL_cons trivial]
          simp -implicitDefEqProofs only [gc_same, gc_ex, gc_no, ev_seq, thenS_nx, thenS_rt, thenS_bk, thenS_ct, thenS_ex, ev_skip, ev_brk, ev_cnt, ev_var, ev_c, ev_un, un1_ok, ev_bin, bin1_ok, bin2_ok, bin1_ex, bin2_ex, ev_tb, tb1_ok, tb1_ex, ev_tru, tr1_bl, tr1_non, tr1_int, tr1_str, tr1_tup, tr1_frl, tr1_ex, ev_nil, ev_cons, cons1_ok, cons2_ok, cons1_ex, cons2_ex, ev_args, arg1_ok, arg1_ex, ev_and, and1_t, and1_f, and1_ex, ev_or, or1_t, or1_f, or1_ex, ev_not, not1_ok, not1_ex, ev_andV, andV1_t, andV1_f, andV1_ex, ev_orV, orV1_t, orV1_f, orV1_ex, ev_notV, notV1_ok, notV1_ex, ev_ifE, ifE1_t, ifE1_f, ev_if, ifS1_t, ifS1_f, ifS1_ex, ev_set, set1_ok, set1_ex, ev_drop, drop1_ok, drop1_ex, ev_ret, ret1_ok, ret1_ex, ev_retN, ev_par, par1_ok, ev_asg, asg1_ok, asg1_ex, asg2_ok, ev_tgN, ev_tgT, ev_tgCons, tgC_ok, ev_tgNil, ev_semOf, fin1_nx, fin1_rt, fin1_ex, gAdd_int, gSub_int, gMul_int, gFdiv_int, gMod_int, gNeg_int, gLt_int, gLe_int, gGt_int, gGe_int, gEq_int, gNe_int, gIs_bb, gIsN_bb, gIs_non, gIs_tn, gIs_in, gIs_on, gIs_sn, gIsN_non, gIsN_tn, gIsN_in, gIsN_on, gIsN_sn, gIx_tup0, gIx_tup1, gIx_tup2, gIx_tup3, gIx_tup4, gLen_tup, gLen_frl, gLen_str, gInt_int, gInt_bl, gAbs_int, gMax_int, gMin_int, gGcd_int, gLcm_int, gList_tup, gTuple_tup, ev_for, for1_ok, for1_ex, forT_ok, forB_nx, forB_ct, forB_bk, forB_rt, forB_ex, ev_it, it1_tup, it1_frl, it1_str, ev_itA, itA1_ok, ev_sl, sl1_ok, sl2_ok, sl3_ok, ev_noPart, ev_part, part1_ok, gSlc_tup, gSlc_str, ev_sto, sto1_ok, sto2_ok, ev_raise, ev_chain, ch1_ok, ch2_ok, ch3_t, ch3_f, kd_int, kd_bl, kd_str, kd_non, kd_tup, isi_int_int, isi_int_bool, isi_int_str, isi_int_tuple, isi_int_list, isi_int_dict, isi_bl_int, isi_bl_bool, isi_bl_str, isi_bl_tuple, isi_bl_list, isi_bl_dict, isi_str_int, isi_str_bool, isi_str_str, isi_str_tuple, isi_str_list, isi_str_dict, isi_non_int, isi_non_bool, isi_non_str, isi_non_tuple, isi_non_list, isi_non_dict, isi_tup_int, isi_tup_bool, isi_tup_str, isi_tup_tuple, isi_tup_list, isi_tup_dict, isi_frl_int, isi_frl_bool, isi_frl_str, isi_frl_tuple, isi_frl_list, isi_frl_dict, gTup_0, gLst_0, gTup_1, gLst_1, gTup_2, gLst_2, gTup_3, gLst_3, gTup_4, gLst_4, gTup_5, gLst_5, gTup_6, gLst_6, gTup_7, gLst_7, gTup_8, gLst_8, gTup_9, gLst_9, List.map_cons, List.map_nil, List.length_cons, List.length_nil, List.replicate_succ, List.replicate_zero, List.cons_append, List.nil_append, List.set_cons_succ, List.set_cons_zero, List.getElem?_cons_succ, List.getElem?_cons_zero, Nat.reduceAdd, Nat.reduceSub, Nat.zero_add, Nat.add_zero, Bool.not_true, Bool.not_false, decide_true, decide_false, ne_eq, not_false_eq_true, not_true_eq_false, c1, c1', m1, z0]
          rw [dForL_cons trivial]
          simp -implicitDefEqProofs only [gc_same, gc_ex, gc_no, ev_seq, thenS_nx, thenS_rt, thenS_bk, thenS_ct, thenS_ex, ev_skip, ev_brk, ev_cnt, ev_var, ev_c, ev_un, un1_ok, ev_bin, bin1_ok, bin2_ok, bin1_ex, bin2_ex, ev_tb, tb1_ok, tb1_ex, ev_tru, tr1_bl, tr1_non, tr1_int, tr1_str, tr1_tup, tr1_frl, tr1_ex, ev_nil, ev_cons, cons1_ok, cons2_ok, cons1_ex, cons2_ex, ev_args, arg1_ok, arg1_ex, ev_and, and1_t, and1_f, and1_ex, ev_or, or1_t, or1_f, or1_ex, ev_not, not1_ok, not1_ex, ev_andV, andV1_t, andV1_f, andV1_ex, ev_orV, orV1_t, orV1_f, orV1_ex, ev_notV, notV1_ok, notV1_ex, ev_ifE, ifE1_t, ifE1_f, ev_if, ifS1_t, ifS1_f, ifS1_ex, ev_set, set1_ok, set1_ex, ev_drop, drop1_ok, drop1_ex, ev_ret, ret1_ok, ret1_ex, ev_retN, ev_par, par1_ok, ev_asg, asg1_ok, asg1_ex, asg2_ok, ev_tgN, ev_tgT, ev_tgCons, tgC_ok, ev_tgNil, ev_semOf, fin1_nx, fin1_rt, fin1_ex, gAdd_int, gSub_int, gMul_int, gFdiv_int, gMod_int, gNeg_int, gLt_int, gLe_int, gGt_int, gGe_int, gEq_int, gNe_int, gIs_bb, gIsN_bb, gIs_non, gIs_tn, gIs_in, gIs_on, gIs_sn, gIsN_non, gIsN_tn, gIsN_in, gIsN_on, gIsN_sn, gIx_tup0, gIx_tup1, gIx_tup2, gIx_tup3, gIx_tup4, gLen_tup, gLen_frl, gLen_str, gInt_int, gInt_bl, gAbs_int, gMax_int, gMin_int, gGcd_int, gLcm_int, gList_tup, gTuple_tup, ev_for, for1_ok, for1_ex, forT_ok, forB_nx, forB_ct, forB_bk, forB_rt, forB_ex, ev_it, it1_tup, it1_frl, it1_str, ev_itA, itA1_ok, ev_sl, sl1_ok, sl2_ok, sl3_ok, ev_noPart, ev_part, part1_ok, gSlc_tup, gSlc_str, ev_sto, sto1_ok, sto2_ok, ev_raise, ev_chain, ch1_ok, ch2_ok, ch3_t, ch3_f, kd_int, kd_bl, kd_str, kd_non, kd_tup, isi_int_int, isi_int_bool, isi_int_str, isi_int_tuple, isi_int_list, isi_int_dict, isi_bl_int, isi_bl_bool, isi_bl_str, isi_bl_tuple, isi_bl_list, isi_bl_dict, isi_str_int, isi_str_bool, isi_str_str, isi_str_tuple, isi_str_list, isi_str_dict, isi_non_int, isi_non_bool, isi_non_str, isi_non_tuple, isi_non_list, isi_non_dict, isi_tup_int, isi_tup_bool, isi_tup_str, isi_tup_tuple, isi_tup_list, isi_tup_dict, isi_frl_int, isi_frl_bool, isi_frl_str, isi_frl_tuple, isi_frl_list, isi_frl_dict, gTup_0, gLst_0, gTup_1, gLst_1, gTup_2, gLst_2, gTup_3, gLst_3, gTup_4, gLst_4, gTup_5, gLst_5, gTup_6, gLst_6, gTup_7, gLst_7, gTup_8, gLst_8, gTup_9, gLst_9, List.map_cons, List.map_nil, List.length_cons, List.length_nil, List.replicate_succ, List.replicate_zero, List.cons_append, List.nil_append, List.set_cons_succ, List.set_cons_zero, List.getElem?_cons_succ, List.getElem?_cons_zero, Nat.reduceAdd, Nat.reduceSub, Nat.zero_add, Nat.add_zero, Bool.not_true, Bool.not_false, decide_true, decide_false, ne_eq, not_false_eq_true, not_true_eq_false, Int.ofNat_zero]
          rw [gcd_one x y z0]
        · have hz : x % y < y := Nat.mod_lt _ (by omega)
          have hlt : y % (x % y) < 2 ^ n := by
            have h1 : y % (x % y) < x % y := Nat.mod_lt _ (by omega)
            have h2 : y % (x % y) + (x % y) * (y / (x % y)) = y := Nat.mod_add_div _ _
            have h3 : 1 ≤ y / (x % y) := Nat.div_pos (by omega) (by omega)
            have h4 : x % y ≤ (x % y) * (y / (x % y)) := Nat.le_mul_of_pos_right _ h3
            rw [Nat.pow_succ] at hy
            omega
          obtain ⟨w', q⟩ := ih (x % y) (y % (x % y)) (some e) L hlt (by simp at hL; omega)
          refine ⟨w', ?_⟩
          have c2 : ¬ (((x % y : Nat) : Int) = 0) := by omega
          have c2' : ((x % y : Nat) : Int) ≠ 0 := c2
          rw [dForL_cons trivial]
          simp -implicitDefEqProofs only [gc_same, gc_ex, gc_no, ev_seq, thenS_nx, thenS_rt, thenS_bk, thenS_ct, thenS_ex, ev_skip, ev_brk, ev_cnt, ev_var, ev_c, ev_un, un1_ok, ev_bin, bin1_ok, bin2_ok, bin1_ex, bin2_ex, ev_tb, tb1_ok, tb1_ex, ev_tru, tr1_bl, tr1_non, tr1_int, tr1_str, tr1_tup, tr1_frl, tr1_ex, ev_nil, ev_cons, cons1_ok, cons2_ok, cons1_ex, cons2_ex, ev_args, arg1_ok, arg1_ex, ev_and, and1_t, and1_f, and1_ex, ev_or, or1_t, or1_f, or1_ex, ev_not, not1_ok, not1_ex, ev_andV, andV1_t, andV1_f, andV1_ex, ev_orV, orV1_t, orV1_f, orV1_ex, ev_notV, notV1_ok, notV1_ex, ev_ifE, ifE1_t, ifE1_f, ev_if, ifS1_t, ifS1_f, ifS1_ex, ev_set, set1_ok, set1_ex, ev_drop, drop1_ok, drop1_ex, ev_ret, ret1_ok, ret1_ex, ev_retN, ev_par, par1_ok, ev_asg, asg1_ok, asg1_ex, asg2_ok, ev_tgN, ev_tgT, ev_tgCons, tgC_ok, ev_tgNil, ev_semOf, fin1_nx, fin1_rt, fin1_ex, gAdd_int, gSub_int, gMul_int, gFdiv_int, gMod_int, gNeg_int, gLt_int, gLe_int, gGt_int, gGe_int, gEq_int, gNe_int, gIs_bb, gIsN_bb, gIs_non, gIs_tn, gIs_in, gIs_on, gIs_sn, gIsN_non, gIsN_tn, gIsN_in, gIsN_on, gIsN_sn, gIx_tup0, gIx_tup1, gIx_tup2, gIx_tup3, gIx_tup4, gLen_tup, gLen_frl, gLen_str, gInt_int, gInt_bl, gAbs_int, gMax_int, gMin_int, gGcd_int, gLcm_int, gList_tup, gTuple_tup, ev_for, for1_ok, for1_ex, forT_ok, forB_nx, forB_ct, forB_bk, forB_rt, forB_ex, ev_it, it1_tup, it1_frl, it1_str, ev_itA, itA1_ok, ev_sl, sl1_ok, sl2_ok, sl3_ok, ev_noPart, ev_part, part1_ok, gSlc_tup, gSlc_str, ev_sto, sto1_ok, sto2_ok, ev_raise, ev_chain, ch1_ok, ch2_ok, ch3_t, ch3_f, kd_int, kd_bl, kd_str, kd_non, kd_tup, isi_int_int, isi_int_bool, isi_int_str, isi_int_tuple, isi_int_list, isi_int_dict, isi_bl_int, isi_bl_bool, isi_bl_str, isi_bl_tuple, isi_bl_list, isi_bl_dict, isi_str_int, isi_str_bool, isi_str_str, isi_str_tuple, isi_str_list, isi_str_dict, isi_non_int, isi_non_bool, isi_non_str, isi_non_tuple, isi_non_list, isi_non_dict, isi_tup_int, isi_tup_bool, isi_tup_str, isi_tup_tuple, isi_tup_list, isi_tup_dict, isi_frl_int, isi_frl_bool, isi_frl_str, isi_frl_tuple, isi_frl_list, isi_frl_dict, gTup_0, gLst_0, gTup_1, gLst_1, gTup_2, gLst_2, gTup_3, gLst_3, gTup_4, gLst_4, gTup_5, gLst_5, gTup_6, gLst_6, gTup_7, gLst_7, gTup_8, gLst_8, gTup_9, gLst_9, List.map_cons, List.map_nil, List.length_cons, List.length_nil, List.replicate_succ, List.replicate_zero, List.cons_append, List.nil_append, List.set_cons_succ, List.set_cons_zero, List.getElem?_cons_succ, List.getElem?_cons_zero, Nat.reduceAdd, Nat.reduceSub, Nat.zero_add, Nat.add_zero, Bool.not_true, Bool.not_false, decide_true, decide_false, ne_eq, not_false_eq_true, not_true_eq_false, c1, c1', m1]
          rw [dForL_cons trivial]
          simp -implicitDefEqProofs only [gc_same, gc_ex, gc_no, ev_seq, thenS_nx, thenS_rt, thenS_bk, thenS_ct, thenS_ex, ev_skip, ev_brk, ev_cnt, ev_var, ev_c, ev_un, un1_ok, ev_bin, bin1_ok, bin2_ok, bin1_ex, bin2_ex, ev_tb, tb1_ok, tb1_ex, ev_tru, tr1_bl, tr1_non, tr1_int, tr1_str, tr1_tup, tr1_frl, tr1_ex, ev_nil, ev_cons, cons1_ok, cons2_ok, cons1_ex, cons2_ex, ev_args, arg1_ok, arg1_ex, ev_and, and1_t, and1_f, and1_ex, ev_or, or1_t, or1_f, or1_ex, ev_not, not1_ok, not1_ex, ev_andV, andV1_t, andV1_f, andV1_ex, ev_orV, orV1_t, orV1_f, orV1_ex, ev_notV, notV1_ok, notV1_ex, ev_ifE, ifE1_t, ifE1_f, ev_if, ifS1_t, ifS1_f, ifS1_ex, ev_set, set1_ok, set1_ex, ev_drop, drop1_ok, drop1_ex, ev_ret, ret1_ok, ret1_ex, ev_retN, ev_par, par1_ok, ev_asg, asg1_ok, asg1_ex, asg2_ok, ev_tgN, ev_tgT, ev_tgCons, tgC_ok, ev_tgNil, ev_semOf, fin1_nx, fin1_rt, fin1_ex, gAdd_int, gSub_int, gMul_int, gFdiv_int, gMod_int, gNeg_int, gLt_int, gLe_int, gGt_int, gGe_int, gEq_int, gNe_int, gIs_bb, gIsN_bb, gIs_non, gIs_tn, gIs_in, gIs_on, gIs_sn, gIsN_non, gIsN_tn, gIsN_in, gIsN_on, gIsN_sn, gIx_tup0, gIx_tup1, gIx_tup2, gIx_tup3, gIx_tup4, gLen_tup, gLen_frl, gLen_str, gInt_int, gInt_bl, gAbs_int, gMax_int, gMin_int, gGcd_int, gLcm_int, gList_tup, gTuple_tup, ev_for, for1_ok, for1_ex, forT_ok, forB_nx, forB_ct, forB_bk, forB_rt, forB_ex, ev_it, it1_tup, it1_frl, it1_str, ev_itA, itA1_ok, ev_sl, sl1_ok, sl2_ok, sl3_ok, ev_noPart, ev_part, part1_ok, gSlc_tup, gSlc_str, ev_sto, sto1_ok, sto2_ok, ev_raise, ev_chain, ch1_ok, ch2_ok, ch3_t, ch3_f, kd_int, kd_bl, kd_str, kd_non, kd_tup, isi_int_int, isi_int_bool, isi_int_str, isi_int_tuple, isi_int_list, isi_int_dict, isi_bl_int, isi_bl_bool, isi_bl_str, isi_bl_tuple, isi_bl_list, isi_bl_dict, isi_str_int, isi_str_bool, isi_str_str, isi_str_tuple, isi_str_list, isi_str_dict, isi_non_int, isi_non_bool, isi_non_str, isi_non_tuple, isi_non_list, isi_non_dict, isi_tup_int, isi_tup_bool, isi_tup_str, isi_tup_tuple, isi_tup_list, isi_tup_dict, isi_frl_int, isi_frl_bool, isi_frl_str, isi_frl_tuple, isi_frl_list, isi_frl_dict, gTup_0, gLst_0, gTup_1, gLst_1, gTup_2, gLst_2, gTup_3, gLst_3, gTup_4, gLst_4, gTup_5, gLst_5, gTup_6, gLst_6, gTup_7, gLst_7, gTup_8, gLst_8, gTup_9, gLst_9, List.map_cons, List.map_nil, List.length_cons, List.length_nil, List.replicate_succ, List.replicate_zero, List.cons_append, List.nil_append, List.set_cons_succ, List.set_cons_zero, List.getElem?_cons_succ, List.getElem?_cons_zero, Nat.reduceAdd, Nat.reduceSub, Nat.zero_add, Nat.add_zero, Bool.not_true, Bool.not_false, decide_true, decide_false, ne_eq, not_false_eq_true, not_true_eq_false, c2, c2', m1]
          rw [q, ← gcd_two x y]
end Mill
end

section
set_option Elab.async false
set_option linter.all false
set_option maxRecDepth 100000
set_option maxHeartbeats 1000000
namespace Mill
open PySem DL
theorem abs_int (a : Int) : (if a < 0 then -a else a) = ((a.natAbs : Nat) : Int) := by split <;> omega
theorem law_gcd_ok (a b : Int) (h : DHp) (hb : b.natAbs < 2 ^ 1400) : sem__law_gcd [.int a, .int b] h = .ok (.int ((Nat.gcd a.natAbs b.natAbs : Nat) : Int)) h := by
  unfold sem__law_gcd body__law_gcd
  obtain ⟨w', q⟩ := euclid h 1400 a.natAbs b.natAbs none ((List.range (3000 : Int).toNat).map fun i => D.int (i : Nat)) hb (by rw [List.length_map, List.length_range]; decide)
  have r : gRng1 [.int 3000] h = .ok ⟨(List.range (3000 : Int).toNat).map fun i => D.int (i : Nat), fun _ => True⟩ h := gRng1_ok (by decide)
  simp -implicitDefEqProofs only [gc_same, gc_ex, gc_no, ev_seq, thenS_nx, thenS_rt, thenS_bk, thenS_ct, thenS_ex, ev_skip, ev_brk, ev_cnt, ev_var, ev_c, ev_un, un1_ok, ev_bin, bin1_ok, bin2_ok, bin1_ex, bin2_ex, ev_tb, tb1_ok, tb1_ex, ev_tru, tr1_bl, tr1_non, tr1_int, tr1_str, tr1_tup, tr1_frl, tr1_ex, ev_nil, ev_cons, cons1_ok, cons2_ok, cons1_ex, cons2_ex, ev_args, arg1_ok, arg1_ex, ev_and, and1_t, and1_f, and1_ex, ev_or, or1_t, or1_f, or1_ex, ev_not, not1_ok, not1_ex, ev_andV, andV1_t, andV1_f, andV1_ex, ev_orV, orV1_t, orV1_f, orV1_ex, ev_notV, notV1_ok, notV1_ex, ev_ifE, ifE1_t, ifE1_f, ev_if, ifS1_t, ifS1_f, ifS1_ex, ev_set, set1_ok, set1_ex, ev_drop, drop1_ok, drop1_ex, ev_ret, ret1_ok, ret1_ex, ev_retN, ev_par, par1_ok, ev_asg, asg1_ok, asg1_ex, asg2_ok, ev_tgN, ev_tgT, ev_tgCons, tgC_ok, ev_tgNil, ev_semOf, fin1_nx, fin1_rt, fin1_ex, gAdd_int, gSub_int, gMul_int, gFdiv_int, gMod_int, gNeg_int, gLt_int, gLe_int, gGt_int, gGe_int, gEq_int, gNe_int, gIs_bb, gIsN_bb, gIs_non, gIs_tn, gIs_in, gIs_on, gIs_sn, gIsN_non, gIsN_tn, gIsN_in, gIsN_on, gIsN_sn, gIx_tup0, gIx_tup1, gIx_tup2, gIx_tup3, gIx_tup4, gLen_tup, gLen_frl, gLen_str, gInt_int, gInt_bl, gAbs_int, gMax_int, gMin_int, gGcd_int, gLcm_int, gList_tup, gTuple_tup, ev_for, for1_ok, for1_ex, forT_ok, forB_nx, forB_ct, forB_bk, forB_rt, forB_ex, ev_it, it1_tup, it1_frl, it1_str, ev_itA, itA1_ok, ev_sl, sl1_ok, sl2_ok, sl3_ok, ev_noPart, ev_part, part1_ok, gSlc_tup, gSlc_str, ev_sto, sto1_ok, sto2_ok, ev_raise, ev_chain, ch1_ok, ch2_ok, ch3_t, ch3_f, kd_int, kd_bl, kd_str, kd_non, kd_tup, isi_int_int, isi_int_bool, isi_int_str, isi_int_tuple, isi_int_list, isi_int_dict, isi_bl_int, isi_bl_bool, isi_bl_str, isi_bl_tuple, isi_bl_list, isi_bl_dict, isi_str_int, isi_str_bool, isi_str_str, isi_str_tuple, isi_str_list, isi_str_dict, isi_non_int, isi_non_bool, isi_non_str, isi_non_tuple, isi_non_list, isi_non_dict, isi_tup_int, isi_tup_bool, isi_tup_str, isi_tup_tuple, isi_tup_list, isi_tup_dict, isi_frl_int, isi_frl_bool, isi_frl_str, isi_frl_tuple, isi_frl_list, isi_frl_dict, gTup_0, gLst_0, gTup_1, gLst_1, gTup_2, gLst_2, gTup_3, gLst_3, gTup_4, gLst_4, gTup_5, gLst_5, gTup_6, gLst_6, gTup_7, gLst_7, gTup_8, gLst_8, gTup_9, gLst_9, List.map_cons, List.map_nil, List.length_cons, List.length_nil, List.replicate_succ, List.replicate_zero, List.cons_append, List.nil_append, List.set_cons_succ, List.set_cons_zero, List.getElem?_cons_succ, List.getElem?_cons_zero, Nat.reduceAdd, Nat.reduceSub, Nat.zero_add, Nat.add_zero, Bool.not_true, Bool.not_false, decide_true, decide_false, ne_eq, not_false_eq_true, not_true_eq_false, abs_int, r, q]
theorem fdiv_neg_of {p : Int} {g : Nat} (h : (g : Int) ∣ p) (g0 : g ≠ 0) : p.fdiv (-(g : Int)) = (-p) / (g : Int) := by
  obtain ⟨c, rfl⟩ := h
  rw [show (g : Int) * c = (-(g : Int)) * (-c) from (Int.neg_mul_neg _ _).symm, Int.mul_fdiv_cancel_left _ (by omega), show -(-(g : Int) * -c) = (g : Int) * (-c) by rw [Int.neg_mul_neg, Int.mul_neg], Int.mul_ediv_cancel_left _ (by omega)]
theorem law_lowest_ok (p q : Int) (h : DHp) (hq : q ≠ 0) (hb : q.natAbs < 2 ^ 1400) : sem__law_lowest [.int p, .int q] h = .ok (fr (nP p q) (nQ p q)) h := by
  have g := law_gcd_ok p q h hb
  have gp := g_pos (p := p) hq
  have d1 : divOk ((Nat.gcd p.natAbs q.natAbs : Nat) : Int) := divOk_gcd hq hb (by decide) (by decide)
  have d2 : divOk (-((Nat.gcd p.natAbs q.natAbs : Nat) : Int)) := ⟨by omega, by rw [Int.natAbs_neg]; exact d1.2⟩
  unfold sem__law_lowest body__law_lowest fr nP nQ
  have f1 : ∀ x : Int, x.fdiv ((Nat.gcd p.natAbs q.natAbs : Nat) : Int) = x / ((Nat.gcd p.natAbs q.natAbs : Nat) : Int) := fun x => Int.fdiv_eq_ediv_of_nonneg _ (by omega)
  have f2 := fdiv_neg_of (gcd_dvdl p q) (by omega)
  have f3 := fdiv_neg_of (gcd_dvdr p q) (by omega)
  by_cases c : q < 0
  · simp -implicitDefEqProofs only [gc_same, gc_ex, gc_no, ev_seq, thenS_nx, thenS_rt, thenS_bk, thenS_ct, thenS_ex, ev_skip, ev_brk, ev_cnt, ev_var, ev_c, ev_un, un1_ok, ev_bin, bin1_ok, bin2_ok, bin1_ex, bin2_ex, ev_tb, tb1_ok, tb1_ex, ev_tru, tr1_bl, tr1_non, tr1_int, tr1_str, tr1_tup, tr1_frl, tr1_ex, ev_nil, ev_cons, cons1_ok, cons2_ok, cons1_ex, cons2_ex, ev_args, arg1_ok, arg1_ex, ev_and, and1_t, and1_f, and1_ex, ev_or, or1_t, or1_f, or1_ex, ev_not, not1_ok, not1_ex, ev_andV, andV1_t, andV1_f, andV1_ex, ev_orV, orV1_t, orV1_f, orV1_ex, ev_notV, notV1_ok, notV1_ex, ev_ifE, ifE1_t, ifE1_f, ev_if, ifS1_t, ifS1_f, ifS1_ex, ev_set, set1_ok, set1_ex, ev_drop, drop1_ok, drop1_ex, ev_ret, ret1_ok, ret1_ex, ev_retN, ev_par, par1_ok, ev_asg, asg1_ok, asg1_ex, asg2_ok, ev_tgN, ev_tgT, ev_tgCons, tgC_ok, ev_tgNil, ev_semOf, fin1_nx, fin1_rt, fin1_ex, gAdd_int, gSub_int, gMul_int, gFdiv_int, gMod_int, gNeg_int, gLt_int, gLe_int, gGt_int, gGe_int, gEq_int, gNe_int, gIs_bb, gIsN_bb, gIs_non, gIs_tn, gIs_in, gIs_on, gIs_sn, gIsN_non, gIsN_tn, gIsN_in, gIsN_on, gIsN_sn, gIx_tup0, gIx_tup1, gIx_tup2, gIx_tup3, gIx_tup4, gLen_tup, gLen_frl, gLen_str, gInt_int, gInt_bl, gAbs_int, gMax_int, gMin_int, gGcd_int, gLcm_int, gList_tup, gTuple_tup, ev_for, for1_ok, for1_ex, forT_ok, forB_nx, forB_ct, forB_bk, forB_rt, forB_ex, ev_it, it1_tup, it1_frl, it1_str, ev_itA, itA1_ok, ev_sl, sl1_ok, sl2_ok, sl3_ok, ev_noPart, ev_part, part1_ok, gSlc_tup, gSlc_str, ev_sto, sto1_ok, sto2_ok, ev_raise, ev_chain, ch1_ok, ch2_ok, ch3_t, ch3_f, kd_int, kd_bl, kd_str, kd_non, kd_tup, isi_int_int, isi_int_bool, isi_int_str, isi_int_tuple, isi_int_list, isi_int_dict, isi_bl_int, isi_bl_bool, isi_bl_str, isi_bl_tuple, isi_bl_list, isi_bl_dict, isi_str_int, isi_str_bool, isi_str_str, isi_str_tuple, isi_str_list, isi_str_dict, isi_non_int, isi_non_bool, isi_non_str, isi_non_tuple, isi_non_list, isi_non_dict, isi_tup_int, isi_tup_bool, isi_tup_str, isi_tup_tuple, isi_tup_list, isi_tup_dict, isi_frl_int, isi_frl_bool, isi_frl_str, isi_frl_tuple, isi_frl_list, isi_frl_dict, gTup_0, gLst_0, gTup_1, gLst_1, gTup_2, gLst_2, gTup_3, gLst_3, gTup_4, gLst_4, gTup_5, gLst_5, gTup_6, gLst_6, gTup_7, gLst_7, gTup_8, gLst_8, gTup_9, gLst_9, List.map_cons, List.map_nil, List.length_cons, List.length_nil, List.replicate_succ, List.replicate_zero, List.cons_append, List.nil_append, List.set_cons_succ, List.set_cons_zero, List.getElem?_cons_succ, List.getElem?_cons_zero, Nat.reduceAdd, Nat.reduceSub, Nat.zero_add, Nat.add_zero, Bool.not_true, Bool.not_false, decide_true, decide_false, ne_eq, not_false_eq_true, not_true_eq_false, g, c, d2, f2, f3, if_true]
  · simp -implicitDefEqProofs only [gc_same, gc_ex, gc_no, ev_seq, thenS_nx, thenS_rt, thenS_bk, thenS_ct, thenS_ex, ev_skip, ev_brk, ev_cnt, ev_var, ev_c, ev_un, un1_ok, ev_bin, bin1_ok, bin2_ok, bin1_ex, bin2_ex, ev_tb, tb1_ok, tb1_ex, ev_tru, tr1_bl, tr1_non, tr1_int, tr1_str, tr1_tup, tr1_frl, tr1_ex, ev_nil, ev_cons, cons1_ok, cons2_ok, cons1_ex, cons2_ex, ev_args, arg1_ok, arg1_ex, ev_and, and1_t, and1_f, and1_ex, ev_or, or1_t, or1_f, or1_ex, ev_not, not1_ok, not1_ex, ev_andV, andV1_t, andV1_f, andV1_ex, ev_orV, orV1_t, orV1_f, orV1_ex, ev_notV, notV1_ok, notV1_ex, ev_ifE, ifE1_t, ifE1_f, ev_if, ifS1_t, ifS1_f, ifS1_ex, ev_set, set1_ok, set1_ex, ev_drop, drop1_ok, drop1_ex, ev_ret, ret1_ok, ret1_ex, ev_retN, ev_par, par1_ok, ev_asg, asg1_ok, asg1_ex, asg2_ok, ev_tgN, ev_tgT, ev_tgCons, tgC_ok, ev_tgNil, ev_semOf, fin1_nx, fin1_rt, fin1_ex, gAdd_int, gSub_int, gMul_int, gFdiv_int, gMod_int, gNeg_int, gLt_int, gLe_int, gGt_int, gGe_int, gEq_int, gNe_int, gIs_bb, gIsN_bb, gIs_non, gIs_tn, gIs_in, gIs_on, gIs_sn, gIsN_non, gIsN_tn, gIsN_in, gIsN_on, gIsN_sn, gIx_tup0, gIx_tup1, gIx_tup2, gIx_tup3, gIx_tup4, gLen_tup, gLen_frl, gLen_str, gInt_int, gInt_bl, gAbs_int, gMax_int, gMin_int, gGcd_int, gLcm_int, gList_tup, gTuple_tup, ev_for, for1_ok, for1_ex, forT_ok, forB_nx, forB_ct, forB_bk, forB_rt, forB_ex, ev_it, it1_tup, it1_frl, it1_str, ev_itA, itA1_ok, ev_sl, sl1_ok, sl2_ok, sl3_ok, ev_noPart, ev_part, part1_ok, gSlc_tup, gSlc_str, ev_sto, sto1_ok, sto2_ok, ev_raise, ev_chain, ch1_ok, ch2_ok, ch3_t, ch3_f, kd_int, kd_bl, kd_str, kd_non, kd_tup, isi_int_int, isi_int_bool, isi_int_str, isi_int_tuple, isi_int_list, isi_int_dict, isi_bl_int, isi_bl_bool, isi_bl_str, isi_bl_tuple, isi_bl_list, isi_bl_dict, isi_str_int, isi_str_bool, isi_str_str, isi_str_tuple, isi_str_list, isi_str_dict, isi_non_int, isi_non_bool, isi_non_str, isi_non_tuple, isi_non_list, isi_non_dict, isi_tup_int, isi_tup_bool, isi_tup_str, isi_tup_tuple, isi_tup_list, isi_tup_dict, isi_frl_int, isi_frl_bool, isi_frl_str, isi_frl_tuple, isi_frl_list, isi_frl_dict, gTup_0, gLst_0, gTup_1, gLst_1, gTup_2, gLst_2, gTup_3, gLst_3, gTup_4, gLst_4, gTup_5, gLst_5, gTup_6, gLst_6, gTup_7, gLst_7, gTup_8, gLst_8, gTup_9, gLst_9, List.map_cons, List.map_nil, List.length_cons, List.length_nil, List.replicate_succ, List.replicate_zero, List.cons_append, List.nil_append, List.set_cons_succ, List.set_cons_zero, List.getElem?_cons_succ, List.getElem?_cons_zero, Nat.reduceAdd, Nat.reduceSub, Nat.zero_add, Nat.add_zero, Bool.not_true, Bool.not_false, decide_true, decide_false, ne_eq, not_false_eq_true, not_true_eq_false, g, c, d1, f1, if_false]
theorem law_is_fraction_ok {P Q : Int} (F : Fr P Q) (hb : Q.natAbs < 2 ^ 1400) (h : DHp) : sem__law_is_fraction [fr P Q] h = .ok (.bl true) h := by
  have g := law_gcd_ok P Q h hb
  rw [F.cop] at g
  have p := F.pos
  unfold sem__law_is_fraction body__law_is_fraction fr
  simp -implicitDefEqProofs only [gc_same, gc_ex, gc_no, ev_seq, thenS_nx, thenS_rt, thenS_bk, thenS_ct, thenS_ex, ev_skip, ev_brk, ev_cnt, ev_var, ev_c, ev_un, un1_ok, ev_bin, bin1_ok, bin2_ok, bin1_ex, bin2_ex, ev_tb, tb1_ok, tb1_ex, ev_tru, tr1_bl, tr1_non, tr1_int, tr1_str, tr1_tup, tr1_frl, tr1_ex, ev_nil, ev_cons, cons1_ok, cons2_ok, cons1_ex, cons2_ex, ev_args, arg1_ok, arg1_ex, ev_and, and1_t, and1_f, and1_ex, ev_or, or1_t, or1_f, or1_ex, ev_not, not1_ok, not1_ex, ev_andV, andV1_t, andV1_f, andV1_ex, ev_orV, orV1_t, orV1_f, orV1_ex, ev_notV, notV1_ok, notV1_ex, ev_ifE, ifE1_t, ifE1_f, ev_if, ifS1_t, ifS1_f, ifS1_ex, ev_set, set1_ok, set1_ex, ev_drop, drop1_ok, drop1_ex, ev_ret, ret1_ok, ret1_ex, ev_retN, ev_par, par1_ok, ev_asg, asg1_ok, asg1_ex, asg2_ok, ev_tgN, ev_tgT, ev_tgCons, tgC_ok, ev_tgNil, ev_semOf, fin1_nx, fin1_rt, fin1_ex, gAdd_int, gSub_int, gMul_int, gFdiv_int, gMod_int, gNeg_int, gLt_int, gLe_int, gGt_int, gGe_int, gEq_int, gNe_int, gIs_bb, gIsN_bb, gIs_non, gIs_tn, gIs_in, gIs_on, gIs_sn, gIsN_non, gIsN_tn, gIsN_in, gIsN_on, gIsN_sn, gIx_tup0, gIx_tup1, gIx_tup2, gIx_tup3, gIx_tup4, gLen_tup, gLen_frl, gLen_str, gInt_int, gInt_bl, gAbs_int, gMax_int, gMin_int, gGcd_int, gLcm_int, gList_tup, gTuple_tup, ev_for, for1_ok, for1_ex, forT_ok, forB_nx, forB_ct, forB_bk, forB_rt, forB_ex, ev_it, it1_tup, it1_frl, it1_str, ev_itA, itA1_ok, ev_sl, sl1_ok, sl2_ok, sl3_ok, ev_noPart, ev_part, part1_ok, gSlc_tup, gSlc_str, ev_sto, sto1_ok, sto2_ok, ev_raise, ev_chain, ch1_ok, ch2_ok, ch3_t, ch3_f, kd_int, kd_bl, kd_str, kd_non, kd_tup, isi_int_int, isi_int_bool, isi_int_str, isi_int_tuple, isi_int_list, isi_int_dict, isi_bl_int, isi_bl_bool, isi_bl_str, isi_bl_tuple, isi_bl_list, isi_bl_dict, isi_str_int, isi_str_bool, isi_str_str, isi_str_tuple, isi_str_list, isi_str_dict, isi_non_int, isi_non_bool, isi_non_str, isi_non_tuple, isi_non_list, isi_non_dict, isi_tup_int, isi_tup_bool, isi_tup_str, isi_tup_tuple, isi_tup_list, isi_tup_dict, isi_frl_int, isi_frl_bool, isi_frl_str, isi_frl_tuple, isi_frl_list, isi_frl_dict, gTup_0, gLst_0, gTup_1, gLst_1, gTup_2, gLst_2, gTup_3, gLst_3, gTup_4, gLst_4, gTup_5, gLst_5, gTup_6, gLst_6, gTup_7, gLst_7, gTup_8, gLst_8, gTup_9, gLst_9, List.map_cons, List.map_nil, List.length_cons, List.length_nil, List.replicate_succ, List.replicate_zero, List.cons_append, List.nil_append, List.set_cons_succ, List.set_cons_zero, List.getElem?_cons_succ, List.getElem?_cons_zero, Nat.reduceAdd, Nat.reduceSub, Nat.zero_add, Nat.add_zero, Bool.not_true, Bool.not_false, decide_true, decide_false, ne_eq, not_false_eq_true, not_true_eq_false, g, p, law_is_whole_int, show ((2 : Nat) : Int) = 2 from rfl, show ((1 : Nat) : Int) = 1 from rfl]
theorem law_is_ok {P Q p q : Int} (F : Fr P Q) (hb : Q.natAbs < 2 ^ 1400) (h : DHp) (e : P * q = p * Q) (m1 : mulOk P q) (m2 : mulOk p Q) : sem__law_is [fr P Q, .int p, .int q] h = .ok (.bl true) h := by
  have f := law_is_fraction_ok F hb h
  unfold sem__law_is body__law_is
  unfold fr at f ⊢
  simp -implicitDefEqProofs only [gc_same, gc_ex, gc_no, ev_seq, thenS_nx, thenS_rt, thenS_bk, thenS_ct, thenS_ex, ev_skip, ev_brk, ev_cnt, ev_var, ev_c, ev_un, un1_ok, ev_bin, bin1_ok, bin2_ok, bin1_ex, bin2_ex, ev_tb, tb1_ok, tb1_ex, ev_tru, tr1_bl, tr1_non, tr1_int, tr1_str, tr1_tup, tr1_frl, tr1_ex, ev_nil, ev_cons, cons1_ok, cons2_ok, cons1_ex, cons2_ex, ev_args, arg1_ok, arg1_ex, ev_and, and1_t, and1_f, and1_ex, ev_or, or1_t, or1_f, or1_ex, ev_not, not1_ok, not1_ex, ev_andV, andV1_t, andV1_f, andV1_ex, ev_orV, orV1_t, orV1_f, orV1_ex, ev_notV, notV1_ok, notV1_ex, ev_ifE, ifE1_t, ifE1_f, ev_if, ifS1_t, ifS1_f, ifS1_ex, ev_set, set1_ok, set1_ex, ev_drop, drop1_ok, drop1_ex, ev_ret, ret1_ok, ret1_ex, ev_retN, ev_par, par1_ok, ev_asg, asg1_ok, asg1_ex, asg2_ok, ev_tgN, ev_tgT, ev_tgCons, tgC_ok, ev_tgNil, ev_semOf, fin1_nx, fin1_rt, fin1_ex, gAdd_int, gSub_int, gMul_int, gFdiv_int, gMod_int, gNeg_int, gLt_int, gLe_int, gGt_int, gGe_int, gEq_int, gNe_int, gIs_bb, gIsN_bb, gIs_non, gIs_tn, gIs_in, gIs_on, gIs_sn, gIsN_non, gIsN_tn, gIsN_in, gIsN_on, gIsN_sn, gIx_tup0, gIx_tup1, gIx_tup2, gIx_tup3, gIx_tup4, gLen_tup, gLen_frl, gLen_str, gInt_int, gInt_bl, gAbs_int, gMax_int, gMin_int, gGcd_int, gLcm_int, gList_tup, gTuple_tup, ev_for, for1_ok, for1_ex, forT_ok, forB_nx, forB_ct, forB_bk, forB_rt, forB_ex, ev_it, it1_tup, it1_frl, it1_str, ev_itA, itA1_ok, ev_sl, sl1_ok, sl2_ok, sl3_ok, ev_noPart, ev_part, part1_ok, gSlc_tup, gSlc_str, ev_sto, sto1_ok, sto2_ok, ev_raise, ev_chain, ch1_ok, ch2_ok, ch3_t, ch3_f, kd_int, kd_bl, kd_str, kd_non, kd_tup, isi_int_int, isi_int_bool, isi_int_str, isi_int_tuple, isi_int_list, isi_int_dict, isi_bl_int, isi_bl_bool, isi_bl_str, isi_bl_tuple, isi_bl_list, isi_bl_dict, isi_str_int, isi_str_bool, isi_str_str, isi_str_tuple, isi_str_list, isi_str_dict, isi_non_int, isi_non_bool, isi_non_str, isi_non_tuple, isi_non_list, isi_non_dict, isi_tup_int, isi_tup_bool, isi_tup_str, isi_tup_tuple, isi_tup_list, isi_tup_dict, isi_frl_int, isi_frl_bool, isi_frl_str, isi_frl_tuple, isi_frl_list, isi_frl_dict, gTup_0, gLst_0, gTup_1, gLst_1, gTup_2, gLst_2, gTup_3, gLst_3, gTup_4, gLst_4, gTup_5, gLst_5, gTup_6, gLst_6, gTup_7, gLst_7, gTup_8, gLst_8, gTup_9, gLst_9, List.map_cons, List.map_nil, List.length_cons, List.length_nil, List.replicate_succ, List.replicate_zero, List.cons_append, List.nil_append, List.set_cons_succ, List.set_cons_zero, List.getElem?_cons_succ, List.getElem?_cons_zero, Nat.reduceAdd, Nat.reduceSub, Nat.zero_add, Nat.add_zero, Bool.not_true, Bool.not_false, decide_true, decide_false, ne_eq, not_false_eq_true, not_true_eq_false, f, m1, m2, e]
/-- the value of a def's answer -/
theorem law_is_nrm {p q : Int} {n : Nat} (hq : q ≠ 0) (hp : p.natAbs < 2 ^ n) (hb : q.natAbs < 2 ^ n) (n0 : 0 < n) (hn : n ≤ 1400) (h : DHp) : sem__law_is [fr (nP p q) (nQ p q), .int p, .int q] h = .ok (.bl true) h := by
  have bP : (nP p q).natAbs < 2 ^ n := Nat.lt_of_le_of_lt (nP_le _ _) hp
  have bQ : (nQ p q).natAbs < 2 ^ n := Nat.lt_of_le_of_lt (nQ_le _ _) hb
  exact law_is_ok (nrm_fr hq) (bd_mono bQ hn) h (nrm_val hq) (mulOk_bd bP hb n0 n0 (by omega)) (mulOk_bd hp bQ n0 n0 (by omega))
theorem law_order_ok {P Q R S : Int} (a1 : mulOk P S) (a2 : mulOk R Q) (h : DHp) : sem__law_order [fr P Q, fr R S] h = .ok (.int (cmpI (P * S) (R * Q))) h := by
  unfold sem__law_order body__law_order cmpI fr
  by_cases c : P * S < R * Q
  · simp -implicitDefEqProofs only [gc_same, gc_ex, gc_no, ev_seq, thenS_nx, thenS_rt, thenS_bk, thenS_ct, thenS_ex, ev_skip, ev_brk, ev_cnt, ev_var, ev_c, ev_un, un1_ok, ev_bin, bin1_ok, bin2_ok, bin1_ex, bin2_ex, ev_tb, tb1_ok, tb1_ex, ev_tru, tr1_bl, tr1_non, tr1_int, tr1_str, tr1_tup, tr1_frl, tr1_ex, ev_nil, ev_cons, cons1_ok, cons2_ok, cons1_ex, cons2_ex, ev_args, arg1_ok, arg1_ex, ev_and, and1_t, and1_f, and1_ex, ev_or, or1_t, or1_f, or1_ex, ev_not, not1_ok, not1_ex, ev_andV, andV1_t, andV1_f, andV1_ex, ev_orV, orV1_t, orV1_f, orV1_ex, ev_notV, notV1_ok, notV1_ex, ev_ifE, ifE1_t, ifE1_f, ev_if, ifS1_t, ifS1_f, ifS1_ex, ev_set, set1_ok, set1_ex, ev_drop, drop1_ok, drop1_ex, ev_ret, ret1_ok, ret1_ex, ev_retN, ev_par, par1_ok, ev_asg, asg1_ok, asg1_ex, asg2_ok, ev_tgN, ev_tgT, ev_tgCons, tgC_ok, ev_tgNil, ev_semOf, fin1_nx, fin1_rt, fin1_ex, gAdd_int, gSub_int, gMul_int, gFdiv_int, gMod_int, gNeg_int, gLt_int, gLe_int, gGt_int, gGe_int, gEq_int, gNe_int, gIs_bb, gIsN_bb, gIs_non, gIs_tn, gIs_in, gIs_on, gIs_sn, gIsN_non, gIsN_tn, gIsN_in, gIsN_on, gIsN_sn, gIx_tup0, gIx_tup1, gIx_tup2, gIx_tup3, gIx_tup4, gLen_tup, gLen_frl, gLen_str, gInt_int, gInt_bl, gAbs_int, gMax_int, gMin_int, gGcd_int, gLcm_int, gList_tup, gTuple_tup, ev_for, for1_ok, for1_ex, forT_ok, forB_nx, forB_ct, forB_bk, forB_rt, forB_ex, ev_it, it1_tup, it1_frl, it1_str, ev_itA, itA1_ok, ev_sl, sl1_ok, sl2_ok, sl3_ok, ev_noPart, ev_part, part1_ok, gSlc_tup, gSlc_str, ev_sto, sto1_ok, sto2_ok, ev_raise, ev_chain, ch1_ok, ch2_ok, ch3_t, ch3_f, kd_int, kd_bl, kd_str, kd_non, kd_tup, isi_int_int, isi_int_bool, isi_int_str, isi_int_tuple, isi_int_list, isi_int_dict, isi_bl_int, isi_bl_bool, isi_bl_str, isi_bl_tuple, isi_bl_list, isi_bl_dict, isi_str_int, isi_str_bool, isi_str_str, isi_str_tuple, isi_str_list, isi_str_dict, isi_non_int, isi_non_bool, isi_non_str, isi_non_tuple, isi_non_list, isi_non_dict, isi_tup_int, isi_tup_bool, isi_tup_str, isi_tup_tuple, isi_tup_list, isi_tup_dict, isi_frl_int, isi_frl_bool, isi_frl_str, isi_frl_tuple, isi_frl_list, isi_frl_dict, gTup_0, gLst_0, gTup_1, gLst_1, gTup_2, gLst_2, gTup_3, gLst_3, gTup_4, gLst_4, gTup_5, gLst_5, gTup_6, gLst_6, gTup_7, gLst_7, gTup_8, gLst_8, gTup_9, gLst_9, List.map_cons, List.map_nil, List.length_cons, List.length_nil, List.replicate_succ, List.replicate_zero, List.cons_append, List.nil_append, List.set_cons_succ, List.set_cons_zero, List.getElem?_cons_succ, List.getElem?_cons_zero, Nat.reduceAdd, Nat.reduceSub, Nat.zero_add, Nat.add_zero, Bool.not_true, Bool.not_false, decide_true, decide_false, ne_eq, not_false_eq_true, not_true_eq_false, a1, a2, c, if_true]
  · by_cases c2 : R * Q < P * S
    · simp -implicitDefEqProofs only [gc_same, gc_ex, gc_no, ev_seq, thenS_nx, thenS_rt, thenS_bk, thenS_ct, thenS_ex, ev_skip, ev_brk, ev_cnt, ev_var, ev_c, ev_un, un1_ok, ev_bin, bin1_ok, bin2_ok, bin1_ex, bin2_ex, ev_tb, tb1_ok, tb1_ex, ev_tru, tr1_bl, tr1_non, tr1_int, tr1_str, tr1_tup, tr1_frl, tr1_ex, ev_nil, ev_cons, cons1_ok, cons2_ok, cons1_ex, cons2_ex, ev_args, arg1_ok, arg1_ex, ev_and, and1_t, and1_f, and1_ex, ev_or, or1_t, or1_f, or1_ex, ev_not, not1_ok, not1_ex, ev_andV, andV1_t, andV1_f, andV1_ex, ev_orV, orV1_t, orV1_f, orV1_ex, ev_notV, notV1_ok, notV1_ex, ev_ifE, ifE1_t, ifE1_f, ev_if, ifS1_t, ifS1_f, ifS1_ex, ev_set, set1_ok, set1_ex, ev_drop, drop1_ok, drop1_ex, ev_ret, ret1_ok, ret1_ex, ev_retN, ev_par, par1_ok, ev_asg, asg1_ok, asg1_ex, asg2_ok, ev_tgN, ev_tgT, ev_tgCons, tgC_ok, ev_tgNil, ev_semOf, fin1_nx, fin1_rt, fin1_ex, gAdd_int, gSub_int, gMul_int, gFdiv_int, gMod_int, gNeg_int, gLt_int, gLe_int, gGt_int, gGe_int, gEq_int, gNe_int, gIs_bb, gIsN_bb, gIs_non, gIs_tn, gIs_in, gIs_on, gIs_sn, gIsN_non, gIsN_tn, gIsN_in, gIsN_on, gIsN_sn, gIx_tup0, gIx_tup1, gIx_tup2, gIx_tup3, gIx_tup4, gLen_tup, gLen_frl, gLen_str, gInt_int, gInt_bl, gAbs_int, gMax_int, gMin_int, gGcd_int, gLcm_int, gList_tup, gTuple_tup, ev_for, for1_ok, for1_ex, forT_ok, forB_nx, forB_ct, forB_bk, forB_rt, forB_ex, ev_it, it1_tup, it1_frl, it1_str, ev_itA, itA1_ok, ev_sl, sl1_ok, sl2_ok, sl3_ok, ev_noPart, ev_part, part1_ok, gSlc_tup, gSlc_str, ev_sto, sto1_ok, sto2_ok, ev_raise, ev_chain, ch1_ok, ch2_ok, ch3_t, ch3_f, kd_int, kd_bl, kd_str, kd_non, kd_tup, isi_int_int, isi_int_bool, isi_int_str, isi_int_tuple, isi_int_list, isi_int_dict, isi_bl_int, isi_bl_bool, isi_bl_str, isi_bl_tuple, isi_bl_list, isi_bl_dict, isi_str_int, isi_str_bool, isi_str_str, isi_str_tuple, isi_str_list, isi_str_dict, isi_non_int, isi_non_bool, isi_non_str, isi_non_tuple, isi_non_list, isi_non_dict, isi_tup_int, isi_tup_bool, isi_tup_str, isi_tup_tuple, isi_tup_list, isi_tup_dict, isi_frl_int, isi_frl_bool, isi_frl_str, isi_frl_tuple, isi_frl_list, isi_frl_dict, gTup_0, gLst_0, gTup_1, gLst_1, gTup_2, gLst_2, gTup_3, gLst_3, gTup_4, gLst_4, gTup_5, gLst_5, gTup_6, gLst_6, gTup_7, gLst_7, gTup_8, gLst_8, gTup_9, gLst_9, List.map_cons, List.map_nil, List.length_cons, List.length_nil, List.replicate_succ, List.replicate_zero, List.cons_append, List.nil_append, List.set_cons_succ, List.set_cons_zero, List.getElem?_cons_succ, List.getElem?_cons_zero, Nat.reduceAdd, Nat.reduceSub, Nat.zero_add, Nat.add_zero, Bool.not_true, Bool.not_false, decide_true, decide_false, ne_eq, not_false_eq_true, not_true_eq_false, a1, a2, c, c2, if_true, if_false]
    · simp -implicitDefEqProofs only [gc_same, gc_ex, gc_no, ev_seq, thenS_nx, thenS_rt, thenS_bk, thenS_ct, thenS_ex, ev_skip, ev_brk, ev_cnt, ev_var, ev_c, ev_un, un1_ok, ev_bin, bin1_ok, bin2_ok, bin1_ex, bin2_ex, ev_tb, tb1_ok, tb1_ex, ev_tru, tr1_bl, tr1_non, tr1_int, tr1_str, tr1_tup, tr1_frl, tr1_ex, ev_nil, ev_cons, cons1_ok, cons2_ok, cons1_ex, cons2_ex, ev_args, arg1_ok, arg1_ex, ev_and, and1_t, and1_f, and1_ex, ev_or, or1_t, or1_f, or1_ex, ev_not, not1_ok, not1_ex, ev_andV, andV1_t, andV1_f, andV1_ex, ev_orV, orV1_t, orV1_f, orV1_ex, ev_notV, notV1_ok, notV1_ex, ev_ifE, ifE1_t, ifE1_f, ev_if, ifS1_t, ifS1_f, ifS1_ex, ev_set, set1_ok, set1_ex, ev_drop, drop1_ok, drop1_ex, ev_ret, ret1_ok, ret1_ex, ev_retN, ev_par, par1_ok, ev_asg, asg1_ok, asg1_ex, asg2_ok, ev_tgN, ev_tgT, ev_tgCons, tgC_ok, ev_tgNil, ev_semOf, fin1_nx, fin1_rt, fin1_ex, gAdd_int, gSub_int, gMul_int, gFdiv_int, gMod_int, gNeg_int, gLt_int, gLe_int, gGt_int, gGe_int, gEq_int, gNe_int, gIs_bb, gIsN_bb, gIs_non, gIs_tn, gIs_in, gIs_on, gIs_sn, gIsN_non, gIsN_tn, gIsN_in, gIsN_on, gIsN_sn, gIx_tup0, gIx_tup1, gIx_tup2, gIx_tup3, gIx_tup4, gLen_tup, gLen_frl, gLen_str, gInt_int, gInt_bl, gAbs_int, gMax_int, gMin_int, gGcd_int, gLcm_int, gList_tup, gTuple_tup, ev_for, for1_ok, for1_ex, forT_ok, forB_nx, forB_ct, forB_bk, forB_rt, forB_ex, ev_it, it1_tup, it1_frl, it1_str, ev_itA, itA1_ok, ev_sl, sl1_ok, sl2_ok, sl3_ok, ev_noPart, ev_part, part1_ok, gSlc_tup, gSlc_str, ev_sto, sto1_ok, sto2_ok, ev_raise, ev_chain, ch1_ok, ch2_ok, ch3_t, ch3_f, kd_int, kd_bl, kd_str, kd_non, kd_tup, isi_int_int, isi_int_bool, isi_int_str, isi_int_tuple, isi_int_list, isi_int_dict, isi_bl_int, isi_bl_bool, isi_bl_str, isi_bl_tuple, isi_bl_list, isi_bl_dict, isi_str_int, isi_str_bool, isi_str_str, isi_str_tuple, isi_str_list, isi_str_dict, isi_non_int, isi_non_bool, isi_non_str, isi_non_tuple, isi_non_list, isi_non_dict, isi_tup_int, isi_tup_bool, isi_tup_str, isi_tup_tuple, isi_tup_list, isi_tup_dict, isi_frl_int, isi_frl_bool, isi_frl_str, isi_frl_tuple, isi_frl_list, isi_frl_dict, gTup_0, gLst_0, gTup_1, gLst_1, gTup_2, gLst_2, gTup_3, gLst_3, gTup_4, gLst_4, gTup_5, gLst_5, gTup_6, gLst_6, gTup_7, gLst_7, gTup_8, gLst_8, gTup_9, gLst_9, List.map_cons, List.map_nil, List.length_cons, List.length_nil, List.replicate_succ, List.replicate_zero, List.cons_append, List.nil_append, List.set_cons_succ, List.set_cons_zero, List.getElem?_cons_succ, List.getElem?_cons_zero, Nat.reduceAdd, Nat.reduceSub, Nat.zero_add, Nat.add_zero, Bool.not_true, Bool.not_false, decide_true, decide_false, ne_eq, not_false_eq_true, not_true_eq_false, a1, a2, c, c2, if_true, if_false]
/-! ### jars -/
def JarO (o : DO) : Prop := ∃ l s c : Int, o = .lst [.int l, .int s, .int c] ∧ 0 ≤ l ∧ 0 ≤ s ∧ s < 2147483629
theorem set_get {h : DHp} {j : Nat} {o : DO} (hj : j < h.length) : (h.set j o)[j]? = some o := List.getElem?_set_self hj
theorem mulR {a b : Int} (h1 : -(2 ^ 64) < b) (h2 : b < 2 ^ 64) : mulOk a b := .inl (.inr ⟨h1, h2⟩)
theorem mulL {a b : Int} (h1 : -(2 ^ 64) < a) (h2 : a < 2 ^ 64) : mulOk a b := .inl (.inl ⟨h1, h2⟩)
theorem ixN3_0 : L2.ixN 3 0 = some 0 := by decide
theorem ixN3_1 : L2.ixN 3 1 = some 1 := by decide
theorem ixN3_2 : L2.ixN 3 2 = some 2 := by decide
theorem take_ok (h : DHp) (j : Nat) (o : DO) (m : Int) (hj : j < h.length) (ho : JarO o) (m0 : 0 < m) (hm : divOk m) :
    ∃ r o', sem__law_take [.obj j, .int m] (h.set j o) = .ok (.int r) (h.set j o') ∧ 0 ≤ r ∧ r < m ∧ JarO o' := by
  obtain ⟨l, s, c, rfl, l0, s0, s1⟩ := ho
  have m1 : m ≠ 0 := by omega
  unfold sem__law_take body__law_take
  have g0 : ∀ v, gIx (.obj j) (.int 0) (h.set j (.lst [v, .int s, .int c])) = .ok v (h.set j (.lst [v, .int s, .int c])) := fun v => gIx_lst (set_get hj) atI_0
  have gc1 : ∀ {o : DO} {d : D}, gc (h.set j (.lst [.int l, .int s, .int c])) (.ok d (h.set j o)) = .ok d (h.set j o) := gc_len (by simp)
  by_cases c1 : 0 < l
  · have st : gSet (.obj j) (.int 0) (.int (l.fdiv m)) (h.set j (.lst [.int l, .int s, .int c])) = some (h.set j (.lst [.int (l.fdiv m), .int s, .int c])) := by
      rw [gSet_lst (l := [_, _, _]) (set_get hj) (show L2.ixN 3 _ = _ from ixN3_0), List.set_set]; rfl
    refine ⟨l.fmod m, .lst [.int (l.fdiv m), .int s, .int c], ?_, ?_, ?_, ⟨_, s, c, rfl, ?_, s0, s1⟩⟩
    · simp -implicitDefEqProofs only [gc_same, gc_ex, gc_no, ev_seq, thenS_nx, thenS_rt, thenS_bk, thenS_ct, thenS_ex, ev_skip, ev_brk, ev_cnt, ev_var, ev_c, ev_un, un1_ok, ev_bin, bin1_ok, bin2_ok, bin1_ex, bin2_ex, ev_tb, tb1_ok, tb1_ex, ev_tru, tr1_bl, tr1_non, tr1_int, tr1_str, tr1_tup, tr1_frl, tr1_ex, ev_nil, ev_cons, cons1_ok, cons2_ok, cons1_ex, cons2_ex, ev_args, arg1_ok, arg1_ex, ev_and, and1_t, and1_f, and1_ex, ev_or, or1_t, or1_f, or1_ex, ev_not, not1_ok, not1_ex, ev_andV, andV1_t, andV1_f, andV1_ex, ev_orV, orV1_t, orV1_f, orV1_ex, ev_notV, notV1_ok, notV1_ex, ev_ifE, ifE1_t, ifE1_f, ev_if, ifS1_t, ifS1_f, ifS1_ex, ev_set, set1_ok, set1_ex, ev_drop, drop1_ok, drop1_ex, ev_ret, ret1_ok, ret1_ex, ev_retN, ev_par, par1_ok, ev_asg, asg1_ok, asg1_ex, asg2_ok, ev_tgN, ev_tgT, ev_tgCons, tgC_ok, ev_tgNil, ev_semOf, fin1_nx, fin1_rt, fin1_ex, gAdd_int, gSub_int, gMul_int, gFdiv_int, gMod_int, gNeg_int, gLt_int, gLe_int, gGt_int, gGe_int, gEq_int, gNe_int, gIs_bb, gIsN_bb, gIs_non, gIs_tn, gIs_in, gIs_on, gIs_sn, gIsN_non, gIsN_tn, gIsN_in, gIsN_on, gIsN_sn, gIx_tup0, gIx_tup1, gIx_tup2, gIx_tup3, gIx_tup4, gLen_tup, gLen_frl, gLen_str, gInt_int, gInt_bl, gAbs_int, gMax_int, gMin_int, gGcd_int, gLcm_int, gList_tup, gTuple_tup, ev_for, for1_ok, for1_ex, forT_ok, forB_nx, forB_ct, forB_bk, forB_rt, forB_ex, ev_it, it1_tup, it1_frl, it1_str, ev_itA, itA1_ok, ev_sl, sl1_ok, sl2_ok, sl3_ok, ev_noPart, ev_part, part1_ok, gSlc_tup, gSlc_str, ev_sto, sto1_ok, sto2_ok, ev_raise, ev_chain, ch1_ok, ch2_ok, ch3_t, ch3_f, kd_int, kd_bl, kd_str, kd_non, kd_tup, isi_int_int, isi_int_bool, isi_int_str, isi_int_tuple, isi_int_list, isi_int_dict, isi_bl_int, isi_bl_bool, isi_bl_str, isi_bl_tuple, isi_bl_list, isi_bl_dict, isi_str_int, isi_str_bool, isi_str_str, isi_str_tuple, isi_str_list, isi_str_dict, isi_non_int, isi_non_bool, isi_non_str, isi_non_tuple, isi_non_list, isi_non_dict, isi_tup_int, isi_tup_bool, isi_tup_str, isi_tup_tuple, isi_tup_list, isi_tup_dict, isi_frl_int, isi_frl_bool, isi_frl_str, isi_frl_tuple, isi_frl_list, isi_frl_dict, gTup_0, gLst_0, gTup_1, gLst_1, gTup_2, gLst_2, gTup_3, gLst_3, gTup_4, gLst_4, gTup_5, gLst_5, gTup_6, gLst_6, gTup_7, gLst_7, gTup_8, gLst_8, gTup_9, gLst_9, List.map_cons, List.map_nil, List.length_cons, List.length_nil, List.replicate_succ, List.replicate_zero, List.cons_append, List.nil_append, List.set_cons_succ, List.set_cons_zero, List.getElem?_cons_succ, List.getElem?_cons_zero, Nat.reduceAdd, Nat.reduceSub, Nat.zero_add, Nat.add_zero, Bool.not_true, Bool.not_false, decide_true, decide_false, ne_eq, not_false_eq_true, not_true_eq_false, g0, c1, m1, hm, sto3_ok st, gc1]
    · rw [Int.fmod_eq_emod_of_nonneg _ (by omega)]; exact Int.emod_nonneg _ m1
    · rw [Int.fmod_eq_emod_of_nonneg _ (by omega)]; exact Int.emod_lt_of_pos _ m0
    · rw [Int.fdiv_eq_ediv_of_nonneg _ (by omega)]; exact Int.ediv_nonneg l0 (by omega)
  · have g2 : gIx (.obj j) (.int 2) (h.set j (.lst [.int l, .int s, .int c])) = .ok (.int c) (h.set j (.lst [.int l, .int s, .int c])) := gIx_lst (set_get hj) atI_2
    have st2 : gSet (.obj j) (.int 2) (.int (c + 1)) (h.set j (.lst [.int l, .int s, .int c])) = some (h.set j (.lst [.int l, .int s, .int (c + 1)])) := by
      rw [gSet_lst (l := [_, _, _]) (set_get hj) (show L2.ixN 3 _ = _ from ixN3_2), List.set_set]; rfl
    have g1 : ∀ s c, gIx (.obj j) (.int 1) (h.set j (.lst [.int l, .int s, .int c])) = .ok (.int s) (h.set j (.lst [.int l, .int s, .int c])) := fun s c => gIx_lst (set_get hj) atI_1
    have g2' : ∀ s c, gIx (.obj j) (.int 2) (h.set j (.lst [.int l, .int s, .int c])) = .ok (.int c) (h.set j (.lst [.int l, .int s, .int c])) := fun s c => gIx_lst (set_get hj) atI_2
    have st1 : ∀ v : D, gSet (.obj j) (.int 1) v (h.set j (.lst [.int l, .int s, .int (c + 1)])) = some (h.set j (.lst [.int l, v, .int (c + 1)])) := fun v => by
      rw [gSet_lst (l := [_, _, _]) (set_get hj) (show L2.ixN 3 _ = _ from ixN3_1), List.set_set]; rfl
    have sto2' : ∀ (v : D) (sd : DSt), sto3 v (.obj j) (.ok (.int 1) (h.set j (.lst [.int l, .int s, .int (c + 1)]))) sd = .nx sd (h.set j (.lst [.int l, v, .int (c + 1)])) := fun v sd => sto3_ok (st1 v)
    have k1 : mulOk s 48271 := mulR (by decide) (by decide)
    have k2 : mulOk (c + 1) 69621 := mulR (by decide) (by decide)
    have k3 : (2147483629 : Int) ≠ 0 := by decide
    have k4 : (65521 : Int) ≠ 0 := by decide
    have k5 : (2147483587 : Int) ≠ 0 := by decide
    have k6 : divOk 7 := ⟨by decide, by decide⟩
    let s2 : Int := (s * 48271 + (c + 1) * 69621 + 11).fmod 2147483629
    have e2 : s2 = (s * 48271 + (c + 1) * 69621 + 11) % 2147483629 := Int.fmod_eq_emod_of_nonneg _ (by decide)
    have b1 : 0 ≤ s2 := by rw [e2]; exact Int.emod_nonneg _ k3
    have b2 : s2 < 2147483629 := by rw [e2]; exact Int.emod_lt_of_pos _ (by decide)
    have k7 : mulOk s2 (s2.fmod 65521 + (c + 1)) := mulL (by omega) (by omega)
    refine ⟨(((s2 * (s2.fmod 65521 + (c + 1))).fmod 2147483587).fdiv 7).fmod m, .lst [.int l, .int s2, .int (c + 1)], ?_, ?_, ?_, ⟨l, s2, c + 1, rfl, l0, b1, b2⟩⟩
    · simp -implicitDefEqProofs only [gc_same, gc_ex, gc_no, ev_seq, thenS_nx, thenS_rt, thenS_bk, thenS_ct, thenS_ex, ev_skip, ev_brk, ev_cnt, ev_var, ev_c, ev_un, un1_ok, ev_bin, bin1_ok, bin2_ok, bin1_ex, bin2_ex, ev_tb, tb1_ok, tb1_ex, ev_tru, tr1_bl, tr1_non, tr1_int, tr1_str, tr1_tup, tr1_frl, tr1_ex, ev_nil, ev_cons, cons1_ok, cons2_ok, cons1_ex, cons2_ex, ev_args, arg1_ok, arg1_ex, ev_and, and1_t, and1_f, and1_ex, ev_or, or1_t, or1_f, or1_ex, ev_not, not1_ok, not1_ex, ev_andV, andV1_t, andV1_f, andV1_ex, ev_orV, orV1_t, orV1_f, orV1_ex, ev_notV, notV1_ok, notV1_ex, ev_ifE, ifE1_t, ifE1_f, ev_if, ifS1_t, ifS1_f, ifS1_ex, ev_set, set1_ok, set1_ex, ev_drop, drop1_ok, drop1_ex, ev_ret, ret1_ok, ret1_ex, ev_retN, ev_par, par1_ok, ev_asg, asg1_ok, asg1_ex, asg2_ok, ev_tgN, ev_tgT, ev_tgCons, tgC_ok, ev_tgNil, ev_semOf, fin1_nx, fin1_rt, fin1_ex, gAdd_int, gSub_int, gMul_int, gFdiv_int, gMod_int, gNeg_int, gLt_int, gLe_int, gGt_int, gGe_int, gEq_int, gNe_int, gIs_bb, gIsN_bb, gIs_non, gIs_tn, gIs_in, gIs_on, gIs_sn, gIsN_non, gIsN_tn, gIsN_in, gIsN_on, gIsN_sn, gIx_tup0, gIx_tup1, gIx_tup2, gIx_tup3, gIx_tup4, gLen_tup, gLen_frl, gLen_str, gInt_int, gInt_bl, gAbs_int, gMax_int, gMin_int, gGcd_int, gLcm_int, gList_tup, gTuple_tup, ev_for, for1_ok, for1_ex, forT_ok, forB_nx, forB_ct, forB_bk, forB_rt, forB_ex, ev_it, it1_tup, it1_frl, it1_str, ev_itA, itA1_ok, ev_sl, sl1_ok, sl2_ok, sl3_ok, ev_noPart, ev_part, part1_ok, gSlc_tup, gSlc_str, ev_sto, sto1_ok, sto2_ok, ev_raise, ev_chain, ch1_ok, ch2_ok, ch3_t, ch3_f, kd_int, kd_bl, kd_str, kd_non, kd_tup, isi_int_int, isi_int_bool, isi_int_str, isi_int_tuple, isi_int_list, isi_int_dict, isi_bl_int, isi_bl_bool, isi_bl_str, isi_bl_tuple, isi_bl_list, isi_bl_dict, isi_str_int, isi_str_bool, isi_str_str, isi_str_tuple, isi_str_list, isi_str_dict, isi_non_int, isi_non_bool, isi_non_str, isi_non_tuple, isi_non_list, isi_non_dict, isi_tup_int, isi_tup_bool, isi_tup_str, isi_tup_tuple, isi_tup_list, isi_tup_dict, isi_frl_int, isi_frl_bool, isi_frl_str, isi_frl_tuple, isi_frl_list, isi_frl_dict, gTup_0, gLst_0, gTup_1, gLst_1, gTup_2, gLst_2, gTup_3, gLst_3, gTup_4, gLst_4, gTup_5, gLst_5, gTup_6, gLst_6, gTup_7, gLst_7, gTup_8, gLst_8, gTup_9, gLst_9, List.map_cons, List.map_nil, List.length_cons, List.length_nil, List.replicate_succ, List.replicate_zero, List.cons_append, List.nil_append, List.set_cons_succ, List.set_cons_zero, List.getElem?_cons_succ, List.getElem?_cons_zero, Nat.reduceAdd, Nat.reduceSub, Nat.zero_add, Nat.add_zero, Bool.not_true, Bool.not_false, decide_true, decide_false, ne_eq, not_false_eq_true, not_true_eq_false, g0, c1, g2, sto3_ok st2, g1, g2', k1, k2, k3, sto2']
      rw [show (s * 48271 + (c + 1) * 69621 + 11).fmod 2147483629 = s2 from rfl]
      simp -implicitDefEqProofs only [gc_same, gc_ex, gc_no, ev_seq, thenS_nx, thenS_rt, thenS_bk, thenS_ct, thenS_ex, ev_skip, ev_brk, ev_cnt, ev_var, ev_c, ev_un, un1_ok, ev_bin, bin1_ok, bin2_ok, bin1_ex, bin2_ex, ev_tb, tb1_ok, tb1_ex, ev_tru, tr1_bl, tr1_non, tr1_int, tr1_str, tr1_tup, tr1_frl, tr1_ex, ev_nil, ev_cons, cons1_ok, cons2_ok, cons1_ex, cons2_ex, ev_args, arg1_ok, arg1_ex, ev_and, and1_t, and1_f, and1_ex, ev_or, or1_t, or1_f, or1_ex, ev_not, not1_ok, not1_ex, ev_andV, andV1_t, andV1_f, andV1_ex, ev_orV, orV1_t, orV1_f, orV1_ex, ev_notV, notV1_ok, notV1_ex, ev_ifE, ifE1_t, ifE1_f, ev_if, ifS1_t, ifS1_f, ifS1_ex, ev_set, set1_ok, set1_ex, ev_drop, drop1_ok, drop1_ex, ev_ret, ret1_ok, ret1_ex, ev_retN, ev_par, par1_ok, ev_asg, asg1_ok, asg1_ex, asg2_ok, ev_tgN, ev_tgT, ev_tgCons, tgC_ok, ev_tgNil, ev_semOf, fin1_nx, fin1_rt, fin1_ex, gAdd_int, gSub_int, gMul_int, gFdiv_int, gMod_int, gNeg_int, gLt_int, gLe_int, gGt_int, gGe_int, gEq_int, gNe_int, gIs_bb, gIsN_bb, gIs_non, gIs_tn, gIs_in, gIs_on, gIs_sn, gIsN_non, gIsN_tn, gIsN_in, gIsN_on, gIsN_sn, gIx_tup0, gIx_tup1, gIx_tup2, gIx_tup3, gIx_tup4, gLen_tup, gLen_frl, gLen_str, gInt_int, gInt_bl, gAbs_int, gMax_int, gMin_int, gGcd_int, gLcm_int, gList_tup, gTuple_tup, ev_for, for1_ok, for1_ex, forT_ok, forB_nx, forB_ct, forB_bk, forB_rt, forB_ex, ev_it, it1_tup, it1_frl, it1_str, ev_itA, itA1_ok, ev_sl, sl1_ok, sl2_ok, sl3_ok, ev_noPart, ev_part, part1_ok, gSlc_tup, gSlc_str, ev_sto, sto1_ok, sto2_ok, ev_raise, ev_chain, ch1_ok, ch2_ok, ch3_t, ch3_f, kd_int, kd_bl, kd_str, kd_non, kd_tup, isi_int_int, isi_int_bool, isi_int_str, isi_int_tuple, isi_int_list, isi_int_dict, isi_bl_int, isi_bl_bool, isi_bl_str, isi_bl_tuple, isi_bl_list, isi_bl_dict, isi_str_int, isi_str_bool, isi_str_str, isi_str_tuple, isi_str_list, isi_str_dict, isi_non_int, isi_non_bool, isi_non_str, isi_non_tuple, isi_non_list, isi_non_dict, isi_tup_int, isi_tup_bool, isi_tup_str, isi_tup_tuple, isi_tup_list, isi_tup_dict, isi_frl_int, isi_frl_bool, isi_frl_str, isi_frl_tuple, isi_frl_list, isi_frl_dict, gTup_0, gLst_0, gTup_1, gLst_1, gTup_2, gLst_2, gTup_3, gLst_3, gTup_4, gLst_4, gTup_5, gLst_5, gTup_6, gLst_6, gTup_7, gLst_7, gTup_8, gLst_8, gTup_9, gLst_9, List.map_cons, List.map_nil, List.length_cons, List.length_nil, List.replicate_succ, List.replicate_zero, List.cons_append, List.nil_append, List.set_cons_succ, List.set_cons_zero, List.getElem?_cons_succ, List.getElem?_cons_zero, Nat.reduceAdd, Nat.reduceSub, Nat.zero_add, Nat.add_zero, Bool.not_true, Bool.not_false, decide_true, decide_false, ne_eq, not_false_eq_true, not_true_eq_false, g1, g2', k4, k5, k6, k7, m1, gc1]
    · rw [Int.fmod_eq_emod_of_nonneg _ (by omega)]; exact Int.emod_nonneg _ m1
    · rw [Int.fmod_eq_emod_of_nonneg _ (by omega)]; exact Int.emod_lt_of_pos _ m0
end Mill
end

section
set_option Elab.async false
set_option linter.all false
set_option maxRecDepth 100000
set_option maxHeartbeats 1000000
namespace Mill
open PySem DL
theorem pw12 (h : DHp) : gPow (.int 10) (.int 12) h = .ok (.int 1000000000000) h := gPow_int (by decide)
theorem pw28 (h : DHp) : gPow (.int 10) (.int 28) h = .ok (.int 10000000000000000000000000000) h := gPow_int (by decide)
theorem pw18 (h : DHp) : gPow (.int 10) (.int 18) h = .ok (.int 1000000000000000000) h := gPow_int (by decide)
theorem pw60 (h : DHp) : gPow (.int 10) (.int 60) h = .ok (.int 1000000000000000000000000000000000000000000000000000000000000) h := gPow_int (by decide)
theorem powOk_bd {i : Int} {n b : Nat} (hb : i.natAbs < 2 ^ b) (b0 : 0 < b) (h : b * n ≤ 2 ^ 27) : powOk i n := by
  refine ⟨by omega, ?_⟩
  have h1 : PySem.Builtin.Int.intBits i ≤ b := by
    unfold PySem.Builtin.Int.intBits
    split
    · omega
    · exact PySem.Flt.log2_lt_of b0 hb
  have h2 : PySem.Builtin.Int.intBits i * n ≤ b * n := Nat.mul_le_mul_right n h1
  have h3 : ((PySem.Builtin.Int.intBits i : Nat) : Int) * (n : Int) = ((PySem.Builtin.Int.intBits i * n : Nat) : Int) := by simp
  rw [h3]
  have : PySem.Builtin.Int.intBits i * n ≤ 2 ^ 27 := Nat.le_trans h2 h
  omega
theorem pw600 (h : DHp) : ∃ M : Int, 0 < M ∧ gPow (.int 1000000000000000000000000000000000000000000000000000000000000) (.int 10) h = .ok (.int M) h := by
  have e : (1000000000000000000000000000000000000000000000000000000000000 : Int).natAbs < 2 ^ 200 := by decide
  have p : (0 : Int) < 1000000000000000000000000000000000000000000000000000000000000 := by decide
  generalize (1000000000000000000000000000000000000000000000000000000000000 : Int) = B at e p
  exact ⟨B ^ 10, Int.pow_pos p, gPow_int (powOk_bd (n := 10) e (by decide) (by decide))⟩
theorem y1 : ¬ (1000000000000000000 : Int) ≤ 0 := by omega
theorem jar_ok (ns : List Int) (k : Nat) (hk : k < 1000) (h : DHp) : ∃ o, sem__law_jar [.frl (ns.map D.int), .int k] h = .ok (.obj h.length) (h ++ [o]) ∧ JarO o := by
  obtain ⟨M, M0, pM⟩ := pw600 h
  have Mn : M ≠ 0 := by omega
  have m1 : ∀ c, mulOk c 31 := fun c => mulR (by decide) (by decide)
  have m2 : mulOk (k : Int) 69621 := mulR (by decide) (by decide)
  have m3 : (2147483629 : Int) ≠ 0 := by decide
  have b1 : ∀ c : Int, 0 ≤ (c * 31 + (k : Int) * 69621 + 17).fmod 2147483629 := fun c => by rw [Int.fmod_eq_emod_of_nonneg _ (by decide)]; exact Int.emod_nonneg _ m3
  have b2 : ∀ c : Int, (c * 31 + (k : Int) * 69621 + 17).fmod 2147483629 < 2147483629 := fun c => by rw [Int.fmod_eq_emod_of_nonneg _ (by decide)]; exact Int.emod_lt_of_pos _ (by decide)
  have g : ∀ o, gc h (.ok (.obj h.length) (h ++ [o])) = .ok (.obj h.length) (h ++ [o]) := fun o => by
    rw [gc_ok, if_neg (fun q => by have := q.2; simp [dLt] at this)]
  unfold sem__law_jar body__law_jar
  by_cases c : k < ns.length
  · have a1 : gIx (.frl (ns.map D.int)) (.int k) h = .ok (.int ns[k]) h := gIx_frl (L2.atI_nat (by rw [List.getElem?_map, List.getElem?_eq_getElem c]; rfl))
    have a2 : ((k : Int) < (ns.length : Int)) := by omega
    have c0 : 0 ≤ (ns[k]).fmod M := by rw [Int.fmod_eq_emod_of_nonneg _ (by omega)]; exact Int.emod_nonneg _ Mn
    generalize (ns[k]) = n at a1 c0
    by_cases q : 1000000000000000000 ≤ n.fmod M
    · refine ⟨_, ?_, _, _, 1, rfl, c0, b1 (n.fmod M), b2 (n.fmod M)⟩
      simp -implicitDefEqProofs only [gc_same, gc_ex, gc_no, ev_seq, thenS_nx, thenS_rt, thenS_bk, thenS_ct, thenS_ex, ev_skip, ev_brk, ev_cnt, ev_var, ev_c, ev_un, un1_ok, ev_bin, bin1_ok, bin2_ok, bin1_ex, bin2_ex, ev_tb, tb1_ok, tb1_ex, ev_tru, tr1_bl, tr1_non, tr1_int, tr1_str, tr1_tup, tr1_frl, tr1_ex, ev_nil, ev_cons, cons1_ok, cons2_ok, cons1_ex, cons2_ex, ev_args, arg1_ok, arg1_ex, ev_and, and1_t, and1_f, and1_ex, ev_or, or1_t, or1_f, or1_ex, ev_not, not1_ok, not1_ex, ev_andV, andV1_t, andV1_f, andV1_ex, ev_orV, orV1_t, orV1_f, orV1_ex, ev_notV, notV1_ok, notV1_ex, ev_ifE, ifE1_t, ifE1_f, ev_if, ifS1_t, ifS1_f, ifS1_ex, ev_set, set1_ok, set1_ex, ev_drop, drop1_ok, drop1_ex, ev_ret, ret1_ok, ret1_ex, ev_retN, ev_par, par1_ok, ev_asg, asg1_ok, asg1_ex, asg2_ok, ev_tgN, ev_tgT, ev_tgCons, tgC_ok, ev_tgNil, ev_semOf, fin1_nx, fin1_rt, fin1_ex, gAdd_int, gSub_int, gMul_int, gFdiv_int, gMod_int, gNeg_int, gLt_int, gLe_int, gGt_int, gGe_int, gEq_int, gNe_int, gIs_bb, gIsN_bb, gIs_non, gIs_tn, gIs_in, gIs_on, gIs_sn, gIsN_non, gIsN_tn, gIsN_in, gIsN_on, gIsN_sn, gIx_tup0, gIx_tup1, gIx_tup2, gIx_tup3, gIx_tup4, gLen_tup, gLen_frl, gLen_str, gInt_int, gInt_bl, gAbs_int, gMax_int, gMin_int, gGcd_int, gLcm_int, gList_tup, gTuple_tup, ev_for, for1_ok, for1_ex, forT_ok, forB_nx, forB_ct, forB_bk, forB_rt, forB_ex, ev_it, it1_tup, it1_frl, it1_str, ev_itA, itA1_ok, ev_sl, sl1_ok, sl2_ok, sl3_ok, ev_noPart, ev_part, part1_ok, gSlc_tup, gSlc_str, ev_sto, sto1_ok, sto2_ok, ev_raise, ev_chain, ch1_ok, ch2_ok, ch3_t, ch3_f, kd_int, kd_bl, kd_str, kd_non, kd_tup, isi_int_int, isi_int_bool, isi_int_str, isi_int_tuple, isi_int_list, isi_int_dict, isi_bl_int, isi_bl_bool, isi_bl_str, isi_bl_tuple, isi_bl_list, isi_bl_dict, isi_str_int, isi_str_bool, isi_str_str, isi_str_tuple, isi_str_list, isi_str_dict, isi_non_int, isi_non_bool, isi_non_str, isi_non_tuple, isi_non_list, isi_non_dict, isi_tup_int, isi_tup_bool, isi_tup_str, isi_tup_tuple, isi_tup_list, isi_tup_dict, isi_frl_int, isi_frl_bool, isi_frl_str, isi_frl_tuple, isi_frl_list, isi_frl_dict, gTup_0, gLst_0, gTup_1, gLst_1, gTup_2, gLst_2, gTup_3, gLst_3, gTup_4, gLst_4, gTup_5, gLst_5, gTup_6, gLst_6, gTup_7, gLst_7, gTup_8, gLst_8, gTup_9, gLst_9, List.map_cons, List.map_nil, List.length_cons, List.length_nil, List.replicate_succ, List.replicate_zero, List.cons_append, List.nil_append, List.set_cons_succ, List.set_cons_zero, List.getElem?_cons_succ, List.getElem?_cons_zero, Nat.reduceAdd, Nat.reduceSub, Nat.zero_add, Nat.add_zero, Bool.not_true, Bool.not_false, decide_true, decide_false, ne_eq, not_false_eq_true, not_true_eq_false, a1, a2, pw60, pM, Mn, pw18, List.length_map, q, m1, m2, m3, g]
    · refine ⟨_, ?_, 0, _, 1, rfl, Int.le_refl _, b1 (n.fmod M), b2 (n.fmod M)⟩
      simp -implicitDefEqProofs only [gc_same, gc_ex, gc_no, ev_seq, thenS_nx, thenS_rt, thenS_bk, thenS_ct, thenS_ex, ev_skip, ev_brk, ev_cnt, ev_var, ev_c, ev_un, un1_ok, ev_bin, bin1_ok, bin2_ok, bin1_ex, bin2_ex, ev_tb, tb1_ok, tb1_ex, ev_tru, tr1_bl, tr1_non, tr1_int, tr1_str, tr1_tup, tr1_frl, tr1_ex, ev_nil, ev_cons, cons1_ok, cons2_ok, cons1_ex, cons2_ex, ev_args, arg1_ok, arg1_ex, ev_and, and1_t, and1_f, and1_ex, ev_or, or1_t, or1_f, or1_ex, ev_not, not1_ok, not1_ex, ev_andV, andV1_t, andV1_f, andV1_ex, ev_orV, orV1_t, orV1_f, orV1_ex, ev_notV, notV1_ok, notV1_ex, ev_ifE, ifE1_t, ifE1_f, ev_if, ifS1_t, ifS1_f, ifS1_ex, ev_set, set1_ok, set1_ex, ev_drop, drop1_ok, drop1_ex, ev_ret, ret1_ok, ret1_ex, ev_retN, ev_par, par1_ok, ev_asg, asg1_ok, asg1_ex, asg2_ok, ev_tgN, ev_tgT, ev_tgCons, tgC_ok, ev_tgNil, ev_semOf, fin1_nx, fin1_rt, fin1_ex, gAdd_int, gSub_int, gMul_int, gFdiv_int, gMod_int, gNeg_int, gLt_int, gLe_int, gGt_int, gGe_int, gEq_int, gNe_int, gIs_bb, gIsN_bb, gIs_non, gIs_tn, gIs_in, gIs_on, gIs_sn, gIsN_non, gIsN_tn, gIsN_in, gIsN_on, gIsN_sn, gIx_tup0, gIx_tup1, gIx_tup2, gIx_tup3, gIx_tup4, gLen_tup, gLen_frl, gLen_str, gInt_int, gInt_bl, gAbs_int, gMax_int, gMin_int, gGcd_int, gLcm_int, gList_tup, gTuple_tup, ev_for, for1_ok, for1_ex, forT_ok, forB_nx, forB_ct, forB_bk, forB_rt, forB_ex, ev_it, it1_tup, it1_frl, it1_str, ev_itA, itA1_ok, ev_sl, sl1_ok, sl2_ok, sl3_ok, ev_noPart, ev_part, part1_ok, gSlc_tup, gSlc_str, ev_sto, sto1_ok, sto2_ok, ev_raise, ev_chain, ch1_ok, ch2_ok, ch3_t, ch3_f, kd_int, kd_bl, kd_str, kd_non, kd_tup, isi_int_int, isi_int_bool, isi_int_str, isi_int_tuple, isi_int_list, isi_int_dict, isi_bl_int, isi_bl_bool, isi_bl_str, isi_bl_tuple, isi_bl_list, isi_bl_dict, isi_str_int, isi_str_bool, isi_str_str, isi_str_tuple, isi_str_list, isi_str_dict, isi_non_int, isi_non_bool, isi_non_str, isi_non_tuple, isi_non_list, isi_non_dict, isi_tup_int, isi_tup_bool, isi_tup_str, isi_tup_tuple, isi_tup_list, isi_tup_dict, isi_frl_int, isi_frl_bool, isi_frl_str, isi_frl_tuple, isi_frl_list, isi_frl_dict, gTup_0, gLst_0, gTup_1, gLst_1, gTup_2, gLst_2, gTup_3, gLst_3, gTup_4, gLst_4, gTup_5, gLst_5, gTup_6, gLst_6, gTup_7, gLst_7, gTup_8, gLst_8, gTup_9, gLst_9, List.map_cons, List.map_nil, List.length_cons, List.length_nil, List.replicate_succ, List.replicate_zero, List.cons_append, List.nil_append, List.set_cons_succ, List.set_cons_zero, List.getElem?_cons_succ, List.getElem?_cons_zero, Nat.reduceAdd, Nat.reduceSub, Nat.zero_add, Nat.add_zero, Bool.not_true, Bool.not_false, decide_true, decide_false, ne_eq, not_false_eq_true, not_true_eq_false, a1, a2, pw60, pM, Mn, pw18, List.length_map, q, m1, m2, m3, g]
  · have a2 : ¬ ((k : Int) < (ns.length : Int)) := by omega
    have q : ¬ (1000000000000000000 : Int) ≤ 0 := y1
    refine ⟨_, ?_, 0, _, 1, rfl, Int.le_refl _, b1 0, b2 0⟩
    simp -implicitDefEqProofs only [gc_same, gc_ex, gc_no, ev_seq, thenS_nx, thenS_rt, thenS_bk, thenS_ct, thenS_ex, ev_skip, ev_brk, ev_cnt, ev_var, ev_c, ev_un, un1_ok, ev_bin, bin1_ok, bin2_ok, bin1_ex, bin2_ex, ev_tb, tb1_ok, tb1_ex, ev_tru, tr1_bl, tr1_non, tr1_int, tr1_str, tr1_tup, tr1_frl, tr1_ex, ev_nil, ev_cons, cons1_ok, cons2_ok, cons1_ex, cons2_ex, ev_args, arg1_ok, arg1_ex, ev_and, and1_t, and1_f, and1_ex, ev_or, or1_t, or1_f, or1_ex, ev_not, not1_ok, not1_ex, ev_andV, andV1_t, andV1_f, andV1_ex, ev_orV, orV1_t, orV1_f, orV1_ex, ev_notV, notV1_ok, notV1_ex, ev_ifE, ifE1_t, ifE1_f, ev_if, ifS1_t, ifS1_f, ifS1_ex, ev_set, set1_ok, set1_ex, ev_drop, drop1_ok, drop1_ex, ev_ret, ret1_ok, ret1_ex, ev_retN, ev_par, par1_ok, ev_asg, asg1_ok, asg1_ex, asg2_ok, ev_tgN, ev_tgT, ev_tgCons, tgC_ok, ev_tgNil, ev_semOf, fin1_nx, fin1_rt, fin1_ex, gAdd_int, gSub_int, gMul_int, gFdiv_int, gMod_int, gNeg_int, gLt_int, gLe_int, gGt_int, gGe_int, gEq_int, gNe_int, gIs_bb, gIsN_bb, gIs_non, gIs_tn, gIs_in, gIs_on, gIs_sn, gIsN_non, gIsN_tn, gIsN_in, gIsN_on, gIsN_sn, gIx_tup0, gIx_tup1, gIx_tup2, gIx_tup3, gIx_tup4, gLen_tup, gLen_frl, gLen_str, gInt_int, gInt_bl, gAbs_int, gMax_int, gMin_int, gGcd_int, gLcm_int, gList_tup, gTuple_tup, ev_for, for1_ok, for1_ex, forT_ok, forB_nx, forB_ct, forB_bk, forB_rt, forB_ex, ev_it, it1_tup, it1_frl, it1_str, ev_itA, itA1_ok, ev_sl, sl1_ok, sl2_ok, sl3_ok, ev_noPart, ev_part, part1_ok, gSlc_tup, gSlc_str, ev_sto, sto1_ok, sto2_ok, ev_raise, ev_chain, ch1_ok, ch2_ok, ch3_t, ch3_f, kd_int, kd_bl, kd_str, kd_non, kd_tup, isi_int_int, isi_int_bool, isi_int_str, isi_int_tuple, isi_int_list, isi_int_dict, isi_bl_int, isi_bl_bool, isi_bl_str, isi_bl_tuple, isi_bl_list, isi_bl_dict, isi_str_int, isi_str_bool, isi_str_str, isi_str_tuple, isi_str_list, isi_str_dict, isi_non_int, isi_non_bool, isi_non_str, isi_non_tuple, isi_non_list, isi_non_dict, isi_tup_int, isi_tup_bool, isi_tup_str, isi_tup_tuple, isi_tup_list, isi_tup_dict, isi_frl_int, isi_frl_bool, isi_frl_str, isi_frl_tuple, isi_frl_list, isi_frl_dict, gTup_0, gLst_0, gTup_1, gLst_1, gTup_2, gLst_2, gTup_3, gLst_3, gTup_4, gLst_4, gTup_5, gLst_5, gTup_6, gLst_6, gTup_7, gLst_7, gTup_8, gLst_8, gTup_9, gLst_9, List.map_cons, List.map_nil, List.length_cons, List.length_nil, List.replicate_succ, List.replicate_zero, List.cons_append, List.nil_append, List.set_cons_succ, List.set_cons_zero, List.getElem?_cons_succ, List.getElem?_cons_zero, Nat.reduceAdd, Nat.reduceSub, Nat.zero_add, Nat.add_zero, Bool.not_true, Bool.not_false, decide_true, decide_false, ne_eq, not_false_eq_true, not_true_eq_false, a2, pw18, List.length_map, q, m1, m2, m3, g]
theorem number_ok (h : DHp) (j : Nat) (o : DO) (hj : j < h.length) (ho : JarO o) :
    ∃ v o', sem__law_number [.obj j] (h.set j o) = .ok (.int v) (h.set j o') ∧ v.natAbs < 2 ^ 140 ∧ JarO o' := by
  obtain ⟨s, o1, t1, s0, s1, J1⟩ := take_ok h j o 4 hj ho (by decide) ⟨by decide, by decide⟩
  obtain ⟨v, o2, t2, v0, v1, J2⟩ := take_ok h j o1 10 hj J1 (by decide) ⟨by decide, by decide⟩
  have g : ∀ {o o' : DO} {d : D}, gc (h.set j o) (.ok d (h.set j o')) = .ok d (h.set j o') := gc_len (by simp)
  have big : ∀ a b : Int, 0 ≤ a → a < 1000000000000 → 0 ≤ b → b < 1000000000000 → (a * 10000000000000000000000000000 + b).natAbs < 2 ^ 140 := fun a b _ _ _ _ => by omega
  unfold sem__law_number body__law_number
  by_cases c1 : s = 1
  · subst c1
    obtain ⟨v', o3, t3, w0, w1, J3⟩ := take_ok h j o2 1000001 hj J2 (by decide) ⟨by decide, by decide⟩
    obtain ⟨r, o4, t4, _, _, J4⟩ := take_ok h j o3 3 hj J3 (by decide) ⟨by decide, by decide⟩
    by_cases r0 : r = 0
    · refine ⟨-v', o4, ?_, by omega, J4⟩
      simp -implicitDefEqProofs only [gc_same, gc_ex, gc_no, ev_seq, thenS_nx, thenS_rt, thenS_bk, thenS_ct, thenS_ex, ev_skip, ev_brk, ev_cnt, ev_var, ev_c, ev_un, un1_ok, ev_bin, bin1_ok, bin2_ok, bin1_ex, bin2_ex, ev_tb, tb1_ok, tb1_ex, ev_tru, tr1_bl, tr1_non, tr1_int, tr1_str, tr1_tup, tr1_frl, tr1_ex, ev_nil, ev_cons, cons1_ok, cons2_ok, cons1_ex, cons2_ex, ev_args, arg1_ok, arg1_ex, ev_and, and1_t, and1_f, and1_ex, ev_or, or1_t, or1_f, or1_ex, ev_not, not1_ok, not1_ex, ev_andV, andV1_t, andV1_f, andV1_ex, ev_orV, orV1_t, orV1_f, orV1_ex, ev_notV, notV1_ok, notV1_ex, ev_ifE, ifE1_t, ifE1_f, ev_if, ifS1_t, ifS1_f, ifS1_ex, ev_set, set1_ok, set1_ex, ev_drop, drop1_ok, drop1_ex, ev_ret, ret1_ok, ret1_ex, ev_retN, ev_par, par1_ok, ev_asg, asg1_ok, asg1_ex, asg2_ok, ev_tgN, ev_tgT, ev_tgCons, tgC_ok, ev_tgNil, ev_semOf, fin1_nx, fin1_rt, fin1_ex, gAdd_int, gSub_int, gMul_int, gFdiv_int, gMod_int, gNeg_int, gLt_int, gLe_int, gGt_int, gGe_int, gEq_int, gNe_int, gIs_bb, gIsN_bb, gIs_non, gIs_tn, gIs_in, gIs_on, gIs_sn, gIsN_non, gIsN_tn, gIsN_in, gIsN_on, gIsN_sn, gIx_tup0, gIx_tup1, gIx_tup2, gIx_tup3, gIx_tup4, gLen_tup, gLen_frl, gLen_str, gInt_int, gInt_bl, gAbs_int, gMax_int, gMin_int, gGcd_int, gLcm_int, gList_tup, gTuple_tup, ev_for, for1_ok, for1_ex, forT_ok, forB_nx, forB_ct, forB_bk, forB_rt, forB_ex, ev_it, it1_tup, it1_frl, it1_str, ev_itA, itA1_ok, ev_sl, sl1_ok, sl2_ok, sl3_ok, ev_noPart, ev_part, part1_ok, gSlc_tup, gSlc_str, ev_sto, sto1_ok, sto2_ok, ev_raise, ev_chain, ch1_ok, ch2_ok, ch3_t, ch3_f, kd_int, kd_bl, kd_str, kd_non, kd_tup, isi_int_int, isi_int_bool, isi_int_str, isi_int_tuple, isi_int_list, isi_int_dict, isi_bl_int, isi_bl_bool, isi_bl_str, isi_bl_tuple, isi_bl_list, isi_bl_dict, isi_str_int, isi_str_bool, isi_str_str, isi_str_tuple, isi_str_list, isi_str_dict, isi_non_int, isi_non_bool, isi_non_str, isi_non_tuple, isi_non_list, isi_non_dict, isi_tup_int, isi_tup_bool, isi_tup_str, isi_tup_tuple, isi_tup_list, isi_tup_dict, isi_frl_int, isi_frl_bool, isi_frl_str, isi_frl_tuple, isi_frl_list, isi_frl_dict, gTup_0, gLst_0, gTup_1, gLst_1, gTup_2, gLst_2, gTup_3, gLst_3, gTup_4, gLst_4, gTup_5, gLst_5, gTup_6, gLst_6, gTup_7, gLst_7, gTup_8, gLst_8, gTup_9, gLst_9, List.map_cons, List.map_nil, List.length_cons, List.length_nil, List.replicate_succ, List.replicate_zero, List.cons_append, List.nil_append, List.set_cons_succ, List.set_cons_zero, List.getElem?_cons_succ, List.getElem?_cons_zero, Nat.reduceAdd, Nat.reduceSub, Nat.zero_add, Nat.add_zero, Bool.not_true, Bool.not_false, decide_true, decide_false, ne_eq, not_false_eq_true, not_true_eq_false, t1, t2, t3, t4, r0, g, show ¬ ((1 : Int) = 2) by decide]
    · refine ⟨v', o4, ?_, by omega, J4⟩
      simp -implicitDefEqProofs only [gc_same, gc_ex, gc_no, ev_seq, thenS_nx, thenS_rt, thenS_bk, thenS_ct, thenS_ex, ev_skip, ev_brk, ev_cnt, ev_var, ev_c, ev_un, un1_ok, ev_bin, bin1_ok, bin2_ok, bin1_ex, bin2_ex, ev_tb, tb1_ok, tb1_ex, ev_tru, tr1_bl, tr1_non, tr1_int, tr1_str, tr1_tup, tr1_frl, tr1_ex, ev_nil, ev_cons, cons1_ok, cons2_ok, cons1_ex, cons2_ex, ev_args, arg1_ok, arg1_ex, ev_and, and1_t, and1_f, and1_ex, ev_or, or1_t, or1_f, or1_ex, ev_not, not1_ok, not1_ex, ev_andV, andV1_t, andV1_f, andV1_ex, ev_orV, orV1_t, orV1_f, orV1_ex, ev_notV, notV1_ok, notV1_ex, ev_ifE, ifE1_t, ifE1_f, ev_if, ifS1_t, ifS1_f, ifS1_ex, ev_set, set1_ok, set1_ex, ev_drop, drop1_ok, drop1_ex, ev_ret, ret1_ok, ret1_ex, ev_retN, ev_par, par1_ok, ev_asg, asg1_ok, asg1_ex, asg2_ok, ev_tgN, ev_tgT, ev_tgCons, tgC_ok, ev_tgNil, ev_semOf, fin1_nx, fin1_rt, fin1_ex, gAdd_int, gSub_int, gMul_int, gFdiv_int, gMod_int, gNeg_int, gLt_int, gLe_int, gGt_int, gGe_int, gEq_int, gNe_int, gIs_bb, gIsN_bb, gIs_non, gIs_tn, gIs_in, gIs_on, gIs_sn, gIsN_non, gIsN_tn, gIsN_in, gIsN_on, gIsN_sn, gIx_tup0, gIx_tup1, gIx_tup2, gIx_tup3, gIx_tup4, gLen_tup, gLen_frl, gLen_str, gInt_int, gInt_bl, gAbs_int, gMax_int, gMin_int, gGcd_int, gLcm_int, gList_tup, gTuple_tup, ev_for, for1_ok, for1_ex, forT_ok, forB_nx, forB_ct, forB_bk, forB_rt, forB_ex, ev_it, it1_tup, it1_frl, it1_str, ev_itA, itA1_ok, ev_sl, sl1_ok, sl2_ok, sl3_ok, ev_noPart, ev_part, part1_ok, gSlc_tup, gSlc_str, ev_sto, sto1_ok, sto2_ok, ev_raise, ev_chain, ch1_ok, ch2_ok, ch3_t, ch3_f, kd_int, kd_bl, kd_str, kd_non, kd_tup, isi_int_int, isi_int_bool, isi_int_str, isi_int_tuple, isi_int_list, isi_int_dict, isi_bl_int, isi_bl_bool, isi_bl_str, isi_bl_tuple, isi_bl_list, isi_bl_dict, isi_str_int, isi_str_bool, isi_str_str, isi_str_tuple, isi_str_list, isi_str_dict, isi_non_int, isi_non_bool, isi_non_str, isi_non_tuple, isi_non_list, isi_non_dict, isi_tup_int, isi_tup_bool, isi_tup_str, isi_tup_tuple, isi_tup_list, isi_tup_dict, isi_frl_int, isi_frl_bool, isi_frl_str, isi_frl_tuple, isi_frl_list, isi_frl_dict, gTup_0, gLst_0, gTup_1, gLst_1, gTup_2, gLst_2, gTup_3, gLst_3, gTup_4, gLst_4, gTup_5, gLst_5, gTup_6, gLst_6, gTup_7, gLst_7, gTup_8, gLst_8, gTup_9, gLst_9, List.map_cons, List.map_nil, List.length_cons, List.length_nil, List.replicate_succ, List.replicate_zero, List.cons_append, List.nil_append, List.set_cons_succ, List.set_cons_zero, List.getElem?_cons_succ, List.getElem?_cons_zero, Nat.reduceAdd, Nat.reduceSub, Nat.zero_add, Nat.add_zero, Bool.not_true, Bool.not_false, decide_true, decide_false, ne_eq, not_false_eq_true, not_true_eq_false, t1, t2, t3, t4, r0, g, show ¬ ((1 : Int) = 2) by decide]
  · by_cases c2 : s = 2
    · subst c2
      obtain ⟨a, o3, t3, a0, a1, J3⟩ := take_ok h j o2 1000000000000 hj J2 (by decide) ⟨by decide, by decide⟩
      obtain ⟨b, o4, t4, b0, b1, J4⟩ := take_ok h j o3 1000000000000 hj J3 (by decide) ⟨by decide, by decide⟩
      obtain ⟨r, o5, t5, _, _, J5⟩ := take_ok h j o4 3 hj J4 (by decide) ⟨by decide, by decide⟩
      have m : mulOk a 10000000000000000000000000000 := mulL (by omega) (by omega)
      by_cases r0 : r = 0
      · refine ⟨-(a * 10000000000000000000000000000 + b), o5, ?_, by rw [Int.natAbs_neg]; exact big a b a0 a1 b0 b1, J5⟩
        simp -implicitDefEqProofs only [gc_same, gc_ex, gc_no, ev_seq, thenS_nx, thenS_rt, thenS_bk, thenS_ct, thenS_ex, ev_skip, ev_brk, ev_cnt, ev_var, ev_c, ev_un, un1_ok, ev_bin, bin1_ok, bin2_ok, bin1_ex, bin2_ex, ev_tb, tb1_ok, tb1_ex, ev_tru, tr1_bl, tr1_non, tr1_int, tr1_str, tr1_tup, tr1_frl, tr1_ex, ev_nil, ev_cons, cons1_ok, cons2_ok, cons1_ex, cons2_ex, ev_args, arg1_ok, arg1_ex, ev_and, and1_t, and1_f, and1_ex, ev_or, or1_t, or1_f, or1_ex, ev_not, not1_ok, not1_ex, ev_andV, andV1_t, andV1_f, andV1_ex, ev_orV, orV1_t, orV1_f, orV1_ex, ev_notV, notV1_ok, notV1_ex, ev_ifE, ifE1_t, ifE1_f, ev_if, ifS1_t, ifS1_f, ifS1_ex, ev_set, set1_ok, set1_ex, ev_drop, drop1_ok, drop1_ex, ev_ret, ret1_ok, ret1_ex, ev_retN, ev_par, par1_ok, ev_asg, asg1_ok, asg1_ex, asg2_ok, ev_tgN, ev_tgT, ev_tgCons, tgC_ok, ev_tgNil, ev_semOf, fin1_nx, fin1_rt, fin1_ex, gAdd_int, gSub_int, gMul_int, gFdiv_int, gMod_int, gNeg_int, gLt_int, gLe_int, gGt_int, gGe_int, gEq_int, gNe_int, gIs_bb, gIsN_bb, gIs_non, gIs_tn, gIs_in, gIs_on, gIs_sn, gIsN_non, gIsN_tn, gIsN_in, gIsN_on, gIsN_sn, gIx_tup0, gIx_tup1, gIx_tup2, gIx_tup3, gIx_tup4, gLen_tup, gLen_frl, gLen_str, gInt_int, gInt_bl, gAbs_int, gMax_int, gMin_int, gGcd_int, gLcm_int, gList_tup, gTuple_tup, ev_for, for1_ok, for1_ex, forT_ok, forB_nx, forB_ct, forB_bk, forB_rt, forB_ex, ev_it, it1_tup, it1_frl, it1_str, ev_itA, itA1_ok, ev_sl, sl1_ok, sl2_ok, sl3_ok, ev_noPart, ev_part, part1_ok, gSlc_tup, gSlc_str, ev_sto, sto1_ok, sto2_ok, ev_raise, ev_chain, ch1_ok, ch2_ok, ch3_t, ch3_f, kd_int, kd_bl, kd_str, kd_non, kd_tup, isi_int_int, isi_int_bool, isi_int_str, isi_int_tuple, isi_int_list, isi_int_dict, isi_bl_int, isi_bl_bool, isi_bl_str, isi_bl_tuple, isi_bl_list, isi_bl_dict, isi_str_int, isi_str_bool, isi_str_str, isi_str_tuple, isi_str_list, isi_str_dict, isi_non_int, isi_non_bool, isi_non_str, isi_non_tuple, isi_non_list, isi_non_dict, isi_tup_int, isi_tup_bool, isi_tup_str, isi_tup_tuple, isi_tup_list, isi_tup_dict, isi_frl_int, isi_frl_bool, isi_frl_str, isi_frl_tuple, isi_frl_list, isi_frl_dict, gTup_0, gLst_0, gTup_1, gLst_1, gTup_2, gLst_2, gTup_3, gLst_3, gTup_4, gLst_4, gTup_5, gLst_5, gTup_6, gLst_6, gTup_7, gLst_7, gTup_8, gLst_8, gTup_9, gLst_9, List.map_cons, List.map_nil, List.length_cons, List.length_nil, List.replicate_succ, List.replicate_zero, List.cons_append, List.nil_append, List.set_cons_succ, List.set_cons_zero, List.getElem?_cons_succ, List.getElem?_cons_zero, Nat.reduceAdd, Nat.reduceSub, Nat.zero_add, Nat.add_zero, Bool.not_true, Bool.not_false, decide_true, decide_false, ne_eq, not_false_eq_true, not_true_eq_false, t1, t2, t3, t4, t5, r0, g, pw12, pw28, m, show ¬ ((2 : Int) = 1) by decide]
      · refine ⟨(a * 10000000000000000000000000000 + b), o5, ?_, big a b a0 a1 b0 b1, J5⟩
        simp -implicitDefEqProofs only [gc_same, gc_ex, gc_no, ev_seq, thenS_nx, thenS_rt, thenS_bk, thenS_ct, thenS_ex, ev_skip, ev_brk, ev_cnt, ev_var, ev_c, ev_un, un1_ok, ev_bin, bin1_ok, bin2_ok, bin1_ex, bin2_ex, ev_tb, tb1_ok, tb1_ex, ev_tru, tr1_bl, tr1_non, tr1_int, tr1_str, tr1_tup, tr1_frl, tr1_ex, ev_nil, ev_cons, cons1_ok, cons2_ok, cons1_ex, cons2_ex, ev_args, arg1_ok, arg1_ex, ev_and, and1_t, and1_f, and1_ex, ev_or, or1_t, or1_f, or1_ex, ev_not, not1_ok, not1_ex, ev_andV, andV1_t, andV1_f, andV1_ex, ev_orV, orV1_t, orV1_f, orV1_ex, ev_notV, notV1_ok, notV1_ex, ev_ifE, ifE1_t, ifE1_f, ev_if, ifS1_t, ifS1_f, ifS1_ex, ev_set, set1_ok, set1_ex, ev_drop, drop1_ok, drop1_ex, ev_ret, ret1_ok, ret1_ex, ev_retN, ev_par, par1_ok, ev_asg, asg1_ok, asg1_ex, asg2_ok, ev_tgN, ev_tgT, ev_tgCons, tgC_ok, ev_tgNil, ev_semOf, fin1_nx, fin1_rt, fin1_ex, gAdd_int, gSub_int, gMul_int, gFdiv_int, gMod_int, gNeg_int, gLt_int, gLe_int, gGt_int, gGe_int, gEq_int, gNe_int, gIs_bb, gIsN_bb, gIs_non, gIs_tn, gIs_in, gIs_on, gIs_sn, gIsN_non, gIsN_tn, gIsN_in, gIsN_on, gIsN_sn, gIx_tup0, gIx_tup1, gIx_tup2, gIx_tup3, gIx_tup4, gLen_tup, gLen_frl, gLen_str, gInt_int, gInt_bl, gAbs_int, gMax_int, gMin_int, gGcd_int, gLcm_int, gList_tup, gTuple_tup, ev_for, for1_ok, for1_ex, forT_ok, forB_nx, forB_ct, forB_bk, forB_rt, forB_ex, ev_it, it1_tup, it1_frl, it1_str, ev_itA, itA1_ok, ev_sl, sl1_ok, sl2_ok, sl3_ok, ev_noPart, ev_part, part1_ok, gSlc_tup, gSlc_str, ev_sto, sto1_ok, sto2_ok, ev_raise, ev_chain, ch1_ok, ch2_ok, ch3_t, ch3_f, kd_int, kd_bl, kd_str, kd_non, kd_tup, isi_int_int, isi_int_bool, isi_int_str, isi_int_tuple, isi_int_list, isi_int_dict, isi_bl_int, isi_bl_bool, isi_bl_str, isi_bl_tuple, isi_bl_list, isi_bl_dict, isi_str_int, isi_str_bool, isi_str_str, isi_str_tuple, isi_str_list, isi_str_dict, isi_non_int, isi_non_bool, isi_non_str, isi_non_tuple, isi_non_list, isi_non_dict, isi_tup_int, isi_tup_bool, isi_tup_str, isi_tup_tuple, isi_tup_list, isi_tup_dict, isi_frl_int, isi_frl_bool, isi_frl_str, isi_frl_tuple, isi_frl_list, isi_frl_dict, gTup_0, gLst_0, gTup_1, gLst_1, gTup_2, gLst_2, gTup_3, gLst_3, gTup_4, gLst_4, gTup_5, gLst_5, gTup_6, gLst_6, gTup_7, gLst_7, gTup_8, gLst_8, gTup_9, gLst_9, List.map_cons, List.map_nil, List.length_cons, List.length_nil, List.replicate_succ, List.replicate_zero, List.cons_append, List.nil_append, List.set_cons_succ, List.set_cons_zero, List.getElem?_cons_succ, List.getElem?_cons_zero, Nat.reduceAdd, Nat.reduceSub, Nat.zero_add, Nat.add_zero, Bool.not_true, Bool.not_false, decide_true, decide_false, ne_eq, not_false_eq_true, not_true_eq_false, t1, t2, t3, t4, t5, r0, g, pw12, pw28, m, show ¬ ((2 : Int) = 1) by decide]
    · obtain ⟨r, o4, t4, _, _, J4⟩ := take_ok h j o2 3 hj J2 (by decide) ⟨by decide, by decide⟩
      by_cases r0 : r = 0
      · refine ⟨-v, o4, ?_, by omega, J4⟩
        simp -implicitDefEqProofs only [gc_same, gc_ex, gc_no, ev_seq, thenS_nx, thenS_rt, thenS_bk, thenS_ct, thenS_ex, ev_skip, ev_brk, ev_cnt, ev_var, ev_c, ev_un, un1_ok, ev_bin, bin1_ok, bin2_ok, bin1_ex, bin2_ex, ev_tb, tb1_ok, tb1_ex, ev_tru, tr1_bl, tr1_non, tr1_int, tr1_str, tr1_tup, tr1_frl, tr1_ex, ev_nil, ev_cons, cons1_ok, cons2_ok, cons1_ex, cons2_ex, ev_args, arg1_ok, arg1_ex, ev_and, and1_t, and1_f, and1_ex, ev_or, or1_t, or1_f, or1_ex, ev_not, not1_ok, not1_ex, ev_andV, andV1_t, andV1_f, andV1_ex, ev_orV, orV1_t, orV1_f, orV1_ex, ev_notV, notV1_ok, notV1_ex, ev_ifE, ifE1_t, ifE1_f, ev_if, ifS1_t, ifS1_f, ifS1_ex, ev_set, set1_ok, set1_ex, ev_drop, drop1_ok, drop1_ex, ev_ret, ret1_ok, ret1_ex, ev_retN, ev_par, par1_ok, ev_asg, asg1_ok, asg1_ex, asg2_ok, ev_tgN, ev_tgT, ev_tgCons, tgC_ok, ev_tgNil, ev_semOf, fin1_nx, fin1_rt, fin1_ex, gAdd_int, gSub_int, gMul_int, gFdiv_int, gMod_int, gNeg_int, gLt_int, gLe_int, gGt_int, gGe_int, gEq_int, gNe_int, gIs_bb, gIsN_bb, gIs_non, gIs_tn, gIs_in, gIs_on, gIs_sn, gIsN_non, gIsN_tn, gIsN_in, gIsN_on, gIsN_sn, gIx_tup0, gIx_tup1, gIx_tup2, gIx_tup3, gIx_tup4, gLen_tup, gLen_frl, gLen_str, gInt_int, gInt_bl, gAbs_int, gMax_int, gMin_int, gGcd_int, gLcm_int, gList_tup, gTuple_tup, ev_for, for1_ok, for1_ex, forT_ok, forB_nx, forB_ct, forB_bk, forB_rt, forB_ex, ev_it, it1_tup, it1_frl, it1_str, ev_itA, itA1_ok, ev_sl, sl1_ok, sl2_ok, sl3_ok, ev_noPart, ev_part, part1_ok, gSlc_tup, gSlc_str, ev_sto, sto1_ok, sto2_ok, ev_raise, ev_chain, ch1_ok, ch2_ok, ch3_t, ch3_f, kd_int, kd_bl, kd_str, kd_non, kd_tup, isi_int_int, isi_int_bool, isi_int_str, isi_int_tuple, isi_int_list, isi_int_dict, isi_bl_int, isi_bl_bool, isi_bl_str, isi_bl_tuple, isi_bl_list, isi_bl_dict, isi_str_int, isi_str_bool, isi_str_str, isi_str_tuple, isi_str_list, isi_str_dict, isi_non_int, isi_non_bool, isi_non_str, isi_non_tuple, isi_non_list, isi_non_dict, isi_tup_int, isi_tup_bool, isi_tup_str, isi_tup_tuple, isi_tup_list, isi_tup_dict, isi_frl_int, isi_frl_bool, isi_frl_str, isi_frl_tuple, isi_frl_list, isi_frl_dict, gTup_0, gLst_0, gTup_1, gLst_1, gTup_2, gLst_2, gTup_3, gLst_3, gTup_4, gLst_4, gTup_5, gLst_5, gTup_6, gLst_6, gTup_7, gLst_7, gTup_8, gLst_8, gTup_9, gLst_9, List.map_cons, List.map_nil, List.length_cons, List.length_nil, List.replicate_succ, List.replicate_zero, List.cons_append, List.nil_append, List.set_cons_succ, List.set_cons_zero, List.getElem?_cons_succ, List.getElem?_cons_zero, Nat.reduceAdd, Nat.reduceSub, Nat.zero_add, Nat.add_zero, Bool.not_true, Bool.not_false, decide_true, decide_false, ne_eq, not_false_eq_true, not_true_eq_false, t1, t2, t4, c1, c2, r0, g]
      · refine ⟨v, o4, ?_, by omega, J4⟩
        simp -implicitDefEqProofs only [gc_same, gc_ex, gc_no, ev_seq, thenS_nx, thenS_rt, thenS_bk, thenS_ct, thenS_ex, ev_skip, ev_brk, ev_cnt, ev_var, ev_c, ev_un, un1_ok, ev_bin, bin1_ok, bin2_ok, bin1_ex, bin2_ex, ev_tb, tb1_ok, tb1_ex, ev_tru, tr1_bl, tr1_non, tr1_int, tr1_str, tr1_tup, tr1_frl, tr1_ex, ev_nil, ev_cons, cons1_ok, cons2_ok, cons1_ex, cons2_ex, ev_args, arg1_ok, arg1_ex, ev_and, and1_t, and1_f, and1_ex, ev_or, or1_t, or1_f, or1_ex, ev_not, not1_ok, not1_ex, ev_andV, andV1_t, andV1_f, andV1_ex, ev_orV, orV1_t, orV1_f, orV1_ex, ev_notV, notV1_ok, notV1_ex, ev_ifE, ifE1_t, ifE1_f, ev_if, ifS1_t, ifS1_f, ifS1_ex, ev_set, set1_ok, set1_ex, ev_drop, drop1_ok, drop1_ex, ev_ret, ret1_ok, ret1_ex, ev_retN, ev_par, par1_ok, ev_asg, asg1_ok, asg1_ex, asg2_ok, ev_tgN, ev_tgT, ev_tgCons, tgC_ok, ev_tgNil, ev_semOf, fin1_nx, fin1_rt, fin1_ex, gAdd_int, gSub_int, gMul_int, gFdiv_int, gMod_int, gNeg_int, gLt_int, gLe_int, gGt_int, gGe_int, gEq_int, gNe_int, gIs_bb, gIsN_bb, gIs_non, gIs_tn, gIs_in, gIs_on, gIs_sn, gIsN_non, gIsN_tn, gIsN_in, gIsN_on, gIsN_sn, gIx_tup0, gIx_tup1, gIx_tup2, gIx_tup3, gIx_tup4, gLen_tup, gLen_frl, gLen_str, gInt_int, gInt_bl, gAbs_int, gMax_int, gMin_int, gGcd_int, gLcm_int, gList_tup, gTuple_tup, ev_for, for1_ok, for1_ex, forT_ok, forB_nx, forB_ct, forB_bk, forB_rt, forB_ex, ev_it, it1_tup, it1_frl, it1_str, ev_itA, itA1_ok, ev_sl, sl1_ok, sl2_ok, sl3_ok, ev_noPart, ev_part, part1_ok, gSlc_tup, gSlc_str, ev_sto, sto1_ok, sto2_ok, ev_raise, ev_chain, ch1_ok, ch2_ok, ch3_t, ch3_f, kd_int, kd_bl, kd_str, kd_non, kd_tup, isi_int_int, isi_int_bool, isi_int_str, isi_int_tuple, isi_int_list, isi_int_dict, isi_bl_int, isi_bl_bool, isi_bl_str, isi_bl_tuple, isi_bl_list, isi_bl_dict, isi_str_int, isi_str_bool, isi_str_str, isi_str_tuple, isi_str_list, isi_str_dict, isi_non_int, isi_non_bool, isi_non_str, isi_non_tuple, isi_non_list, isi_non_dict, isi_tup_int, isi_tup_bool, isi_tup_str, isi_tup_tuple, isi_tup_list, isi_tup_dict, isi_frl_int, isi_frl_bool, isi_frl_str, isi_frl_tuple, isi_frl_list, isi_frl_dict, gTup_0, gLst_0, gTup_1, gLst_1, gTup_2, gLst_2, gTup_3, gLst_3, gTup_4, gLst_4, gTup_5, gLst_5, gTup_6, gLst_6, gTup_7, gLst_7, gTup_8, gLst_8, gTup_9, gLst_9, List.map_cons, List.map_nil, List.length_cons, List.length_nil, List.replicate_succ, List.replicate_zero, List.cons_append, List.nil_append, List.set_cons_succ, List.set_cons_zero, List.getElem?_cons_succ, List.getElem?_cons_zero, Nat.reduceAdd, Nat.reduceSub, Nat.zero_add, Nat.add_zero, Bool.not_true, Bool.not_false, decide_true, decide_false, ne_eq, not_false_eq_true, not_true_eq_false, t1, t2, t4, c1, c2, r0, g]
theorem pair_ok (h : DHp) (j : Nat) (o : DO) (hj : h[j]? = some o) (ho : JarO o) :
    ∃ p q h', sem__law_pair [.obj j] h = .ok (.tup [.int p, .int q]) h' ∧ h'.length = h.length ∧ p.natAbs < 2 ^ 140 ∧ q.natAbs < 2 ^ 140 ∧ q ≠ 0 := by
  obtain ⟨hl, he⟩ := List.getElem?_eq_some_iff.mp hj
  have e : h = h.set j o := by rw [← he, List.set_getElem_self]
  obtain ⟨p, o1, t1, p0, J1⟩ := number_ok h j o hl ho
  obtain ⟨q, o2, t2, q0, J2⟩ := number_ok h j o1 hl J1
  have g : ∀ {o o' : DO} {d : D}, gc (h.set j o) (.ok d (h.set j o')) = .ok d (h.set j o') := gc_len (by simp)
  by_cases z : q = 0
  · obtain ⟨r, o3, t3, r0, r1, J3⟩ := take_ok h j o2 6 hl J2 (by decide) ⟨by decide, by decide⟩
    refine ⟨p, 1 + r, h.set j o3, ?_, by simp, p0, by omega, by omega⟩
    rw [e, List.set_set]
    unfold sem__law_pair body__law_pair
    simp -implicitDefEqProofs only [gc_same, gc_ex, gc_no, ev_seq, thenS_nx, thenS_rt, thenS_bk, thenS_ct, thenS_ex, ev_skip, ev_brk, ev_cnt, ev_var, ev_c, ev_un, un1_ok, ev_bin, bin1_ok, bin2_ok, bin1_ex, bin2_ex, ev_tb, tb1_ok, tb1_ex, ev_tru, tr1_bl, tr1_non, tr1_int, tr1_str, tr1_tup, tr1_frl, tr1_ex, ev_nil, ev_cons, cons1_ok, cons2_ok, cons1_ex, cons2_ex, ev_args, arg1_ok, arg1_ex, ev_and, and1_t, and1_f, and1_ex, ev_or, or1_t, or1_f, or1_ex, ev_not, not1_ok, not1_ex, ev_andV, andV1_t, andV1_f, andV1_ex, ev_orV, orV1_t, orV1_f, orV1_ex, ev_notV, notV1_ok, notV1_ex, ev_ifE, ifE1_t, ifE1_f, ev_if, ifS1_t, ifS1_f, ifS1_ex, ev_set, set1_ok, set1_ex, ev_drop, drop1_ok, drop1_ex, ev_ret, ret1_ok, ret1_ex, ev_retN, ev_par, par1_ok, ev_asg, asg1_ok, asg1_ex, asg2_ok, ev_tgN, ev_tgT, ev_tgCons, tgC_ok, ev_tgNil, ev_semOf, fin1_nx, fin1_rt, fin1_ex, gAdd_int, gSub_int, gMul_int, gFdiv_int, gMod_int, gNeg_int, gLt_int, gLe_int, gGt_int, gGe_int, gEq_int, gNe_int, gIs_bb, gIsN_bb, gIs_non, gIs_tn, gIs_in, gIs_on, gIs_sn, gIsN_non, gIsN_tn, gIsN_in, gIsN_on, gIsN_sn, gIx_tup0, gIx_tup1, gIx_tup2, gIx_tup3, gIx_tup4, gLen_tup, gLen_frl, gLen_str, gInt_int, gInt_bl, gAbs_int, gMax_int, gMin_int, gGcd_int, gLcm_int, gList_tup, gTuple_tup, ev_for, for1_ok, for1_ex, forT_ok, forB_nx, forB_ct, forB_bk, forB_rt, forB_ex, ev_it, it1_tup, it1_frl, it1_str, ev_itA, itA1_ok, ev_sl, sl1_ok, sl2_ok, sl3_ok, ev_noPart, ev_part, part1_ok, gSlc_tup, gSlc_str, ev_sto, sto1_ok, sto2_ok, ev_raise, ev_chain, ch1_ok, ch2_ok, ch3_t, ch3_f, kd_int, kd_bl, kd_str, kd_non, kd_tup, isi_int_int, isi_int_bool, isi_int_str, isi_int_tuple, isi_int_list, isi_int_dict, isi_bl_int, isi_bl_bool, isi_bl_str, isi_bl_tuple, isi_bl_list, isi_bl_dict, isi_str_int, isi_str_bool, isi_str_str, isi_str_tuple, isi_str_list, isi_str_dict, isi_non_int, isi_non_bool, isi_non_str, isi_non_tuple, isi_non_list, isi_non_dict, isi_tup_int, isi_tup_bool, isi_tup_str, isi_tup_tuple, isi_tup_list, isi_tup_dict, isi_frl_int, isi_frl_bool, isi_frl_str, isi_frl_tuple, isi_frl_list, isi_frl_dict, gTup_0, gLst_0, gTup_1, gLst_1, gTup_2, gLst_2, gTup_3, gLst_3, gTup_4, gLst_4, gTup_5, gLst_5, gTup_6, gLst_6, gTup_7, gLst_7, gTup_8, gLst_8, gTup_9, gLst_9, List.map_cons, List.map_nil, List.length_cons, List.length_nil, List.replicate_succ, List.replicate_zero, List.cons_append, List.nil_append, List.set_cons_succ, List.set_cons_zero, List.getElem?_cons_succ, List.getElem?_cons_zero, Nat.reduceAdd, Nat.reduceSub, Nat.zero_add, Nat.add_zero, Bool.not_true, Bool.not_false, decide_true, decide_false, ne_eq, not_false_eq_true, not_true_eq_false, t1, t2, t3, z, g]
  · refine ⟨p, q, h.set j o2, ?_, by simp, p0, q0, z⟩
    rw [e, List.set_set]
    unfold sem__law_pair body__law_pair
    simp -implicitDefEqProofs only [gc_same, gc_ex, gc_no, ev_seq, thenS_nx, thenS_rt, thenS_bk, thenS_ct, thenS_ex, ev_skip, ev_brk, ev_cnt, ev_var, ev_c, ev_un, un1_ok, ev_bin, bin1_ok, bin2_ok, bin1_ex, bin2_ex, ev_tb, tb1_ok, tb1_ex, ev_tru, tr1_bl, tr1_non, tr1_int, tr1_str, tr1_tup, tr1_frl, tr1_ex, ev_nil, ev_cons, cons1_ok, cons2_ok, cons1_ex, cons2_ex, ev_args, arg1_ok, arg1_ex, ev_and, and1_t, and1_f, and1_ex, ev_or, or1_t, or1_f, or1_ex, ev_not, not1_ok, not1_ex, ev_andV, andV1_t, andV1_f, andV1_ex, ev_orV, orV1_t, orV1_f, orV1_ex, ev_notV, notV1_ok, notV1_ex, ev_ifE, ifE1_t, ifE1_f, ev_if, ifS1_t, ifS1_f, ifS1_ex, ev_set, set1_ok, set1_ex, ev_drop, drop1_ok, drop1_ex, ev_ret, ret1_ok, ret1_ex, ev_retN, ev_par, par1_ok, ev_asg, asg1_ok, asg1_ex, asg2_ok, ev_tgN, ev_tgT, ev_tgCons, tgC_ok, ev_tgNil, ev_semOf, fin1_nx, fin1_rt, fin1_ex, gAdd_int, gSub_int, gMul_int, gFdiv_int, gMod_int, gNeg_int, gLt_int, gLe_int, gGt_int, gGe_int, gEq_int, gNe_int, gIs_bb, gIsN_bb, gIs_non, gIs_tn, gIs_in, gIs_on, gIs_sn, gIsN_non, gIsN_tn, gIsN_in, gIsN_on, gIsN_sn, gIx_tup0, gIx_tup1, gIx_tup2, gIx_tup3, gIx_tup4, gLen_tup, gLen_frl, gLen_str, gInt_int, gInt_bl, gAbs_int, gMax_int, gMin_int, gGcd_int, gLcm_int, gList_tup, gTuple_tup, ev_for, for1_ok, for1_ex, forT_ok, forB_nx, forB_ct, forB_bk, forB_rt, forB_ex, ev_it, it1_tup, it1_frl, it1_str, ev_itA, itA1_ok, ev_sl, sl1_ok, sl2_ok, sl3_ok, ev_noPart, ev_part, part1_ok, gSlc_tup, gSlc_str, ev_sto, sto1_ok, sto2_ok, ev_raise, ev_chain, ch1_ok, ch2_ok, ch3_t, ch3_f, kd_int, kd_bl, kd_str, kd_non, kd_tup, isi_int_int, isi_int_bool, isi_int_str, isi_int_tuple, isi_int_list, isi_int_dict, isi_bl_int, isi_bl_bool, isi_bl_str, isi_bl_tuple, isi_bl_list, isi_bl_dict, isi_str_int, isi_str_bool, isi_str_str, isi_str_tuple, isi_str_list, isi_str_dict, isi_non_int, isi_non_bool, isi_non_str, isi_non_tuple, isi_non_list, isi_non_dict, isi_tup_int, isi_tup_bool, isi_tup_str, isi_tup_tuple, isi_tup_list, isi_tup_dict, isi_frl_int, isi_frl_bool, isi_frl_str, isi_frl_tuple, isi_frl_list, isi_frl_dict, gTup_0, gLst_0, gTup_1, gLst_1, gTup_2, gLst_2, gTup_3, gLst_3, gTup_4, gLst_4, gTup_5, gLst_5, gTup_6, gLst_6, gTup_7, gLst_7, gTup_8, gLst_8, gTup_9, gLst_9, List.map_cons, List.map_nil, List.length_cons, List.length_nil, List.replicate_succ, List.replicate_zero, List.cons_append, List.nil_append, List.set_cons_succ, List.set_cons_zero, List.getElem?_cons_succ, List.getElem?_cons_zero, Nat.reduceAdd, Nat.reduceSub, Nat.zero_add, Nat.add_zero, Bool.not_true, Bool.not_false, decide_true, decide_false, ne_eq, not_false_eq_true, not_true_eq_false, t1, t2, z, g]
end Mill
end

section
set_option Elab.async false
set_option linter.all false
set_option maxRecDepth 100000
set_option maxHeartbeats 1000000
namespace Mill
open PySem DL
section
variable {P Q R S : Int} {h : DHp}
theorem tup_fr {a b : Int} : D.tup [.int a, .int b] = fr a b := rfl
theorem gIx_fr0 : gIx (fr P Q) (.int 0) h = .ok (.int P) h := gIx_tup0
theorem gIx_fr1 : gIx (fr P Q) (.int 1) h = .ok (.int Q) h := gIx_tup1
theorem gLen_fr : gLen [fr P Q] h = .ok (.int 2) h := rfl
theorem isi_fr_tuple : gIsi [fr P Q, .ty "tuple"] h = .ok (.bl true) h := isi_tup_tuple
theorem isi_fr_int : gIsi [fr P Q, .ty "int"] h = .ok (.bl false) h := isi_tup_int
theorem isi_fr_bool : gIsi [fr P Q, .ty "bool"] h = .ok (.bl false) h := isi_tup_bool
theorem eqD_fr : eqD h (fr P Q) (fr P Q) = some true := by
  unfold eqD toPy fr
  simp only [toPyA, toPyL]
  rw [if_pos ⟨by simp [PySem.PyData.depth, PySem.PyData.depthAll], by simp [PySem.PyData.depth, PySem.PyData.depthAll]⟩]
  simp [PySem.PyData.eqv, PySem.PyData.eqvAll]
theorem eqD_pp {P' Q' : Int} : eqD h (.tup [fr P Q, fr P' Q']) (.tup [fr P Q, fr P' Q']) = some true := by
  unfold eqD toPy fr
  simp only [toPyA, toPyL]
  rw [if_pos ⟨by simp [PySem.PyData.depth, PySem.PyData.depthAll], by simp [PySem.PyData.depth, PySem.PyData.depthAll]⟩]
  simp [PySem.PyData.eqv, PySem.PyData.eqvAll]
theorem eqD_bl {b : Bool} : eqD h (.bl b) (.bl b) = some true := by
  unfold eqD toPy
  simp only [toPyA]
  rw [if_pos ⟨by simp [PySem.PyData.depth], by simp [PySem.PyData.depth]⟩]
  simp [PySem.PyData.eqv]
theorem gNe_bl {b : Bool} : gNe (.bl b) (.bl b) h = .ok (.bl false) h := gNe_some eqD_bl
theorem gNe_fr : gNe (fr P Q) (fr P Q) h = .ok (.bl false) h := gNe_some eqD_fr
theorem gNe_pp {P' Q' : Int} : gNe (.tup [fr P Q, fr P' Q']) (.tup [fr P Q, fr P' Q']) h = .ok (.bl false) h := gNe_some eqD_pp
def Sm (a : Int) : Prop := a.natAbs < 2 ^ 150
theorem smOk (a : Sm P) (b : Sm Q) : mulOk P Q := mulOk_bd a b (by decide) (by decide) (by decide)
theorem smDiv (a : Sm Q) (b : 0 < Q) : divOk Q := divOk_bd (by omega) a (by decide) (by decide)
theorem cmp_pos {a b : Int} : (0 < cmpI a b) = (b < a) := by unfold cmpI; split <;> (try split) <;> simp <;> omega
theorem cmp_neg {a b : Int} : (cmpI a b < 0) = (a < b) := by unfold cmpI; split <;> (try split) <;> simp <;> omega
theorem cmp_le {a b : Int} : (cmpI a b ≤ 0) = ¬ (b < a) := by unfold cmpI; split <;> (try split) <;> simp <;> omega
theorem cmp_swap {a b : Int} : cmpI b a = -cmpI a b := by unfold cmpI; split <;> (try split) <;> (try split) <;> simp <;> omega
theorem cmp_self {a : Int} : cmpI a a = 0 := by unfold cmpI; simp
theorem lesser_ok (a : Sm P) (b : Sm Q) (c : Sm R) (d : Sm S) : sem_lesser [fr P Q, fr R S] h = .ok (if R * Q < P * S then fr R S else fr P Q) h := by
  have e := compare_ok h (smOk c b) (smOk a d)
  unfold sem_lesser body_lesser
  by_cases k : R * Q < P * S
  · simp -implicitDefEqProofs only [gc_same, gc_ex, gc_no, ev_seq, thenS_nx, thenS_rt, thenS_bk, thenS_ct, thenS_ex, ev_skip, ev_brk, ev_cnt, ev_var, ev_c, ev_un, un1_ok, ev_bin, bin1_ok, bin2_ok, bin1_ex, bin2_ex, ev_tb, tb1_ok, tb1_ex, ev_tru, tr1_bl, tr1_non, tr1_int, tr1_str, tr1_tup, tr1_frl, tr1_ex, ev_nil, ev_cons, cons1_ok, cons2_ok, cons1_ex, cons2_ex, ev_args, arg1_ok, arg1_ex, ev_and, and1_t, and1_f, and1_ex, ev_or, or1_t, or1_f, or1_ex, ev_not, not1_ok, not1_ex, ev_andV, andV1_t, andV1_f, andV1_ex, ev_orV, orV1_t, orV1_f, orV1_ex, ev_notV, notV1_ok, notV1_ex, ev_ifE, ifE1_t, ifE1_f, ev_if, ifS1_t, ifS1_f, ifS1_ex, ev_set, set1_ok, set1_ex, ev_drop, drop1_ok, drop1_ex, ev_ret, ret1_ok, ret1_ex, ev_retN, ev_par, par1_ok, ev_asg, asg1_ok, asg1_ex, asg2_ok, ev_tgN, ev_tgT, ev_tgCons, tgC_ok, ev_tgNil, ev_semOf, fin1_nx, fin1_rt, fin1_ex, gAdd_int, gSub_int, gMul_int, gFdiv_int, gMod_int, gNeg_int, gLt_int, gLe_int, gGt_int, gGe_int, gEq_int, gNe_int, gIs_bb, gIsN_bb, gIs_non, gIs_tn, gIs_in, gIs_on, gIs_sn, gIsN_non, gIsN_tn, gIsN_in, gIsN_on, gIsN_sn, gIx_tup0, gIx_tup1, gIx_tup2, gIx_tup3, gIx_tup4, gLen_tup, gLen_frl, gLen_str, gInt_int, gInt_bl, gAbs_int, gMax_int, gMin_int, gGcd_int, gLcm_int, gList_tup, gTuple_tup, ev_for, for1_ok, for1_ex, forT_ok, forB_nx, forB_ct, forB_bk, forB_rt, forB_ex, ev_it, it1_tup, it1_frl, it1_str, ev_itA, itA1_ok, ev_sl, sl1_ok, sl2_ok, sl3_ok, ev_noPart, ev_part, part1_ok, gSlc_tup, gSlc_str, ev_sto, sto1_ok, sto2_ok, ev_raise, ev_chain, ch1_ok, ch2_ok, ch3_t, ch3_f, kd_int, kd_bl, kd_str, kd_non, kd_tup, isi_int_int, isi_int_bool, isi_int_str, isi_int_tuple, isi_int_list, isi_int_dict, isi_bl_int, isi_bl_bool, isi_bl_str, isi_bl_tuple, isi_bl_list, isi_bl_dict, isi_str_int, isi_str_bool, isi_str_str, isi_str_tuple, isi_str_list, isi_str_dict, isi_non_int, isi_non_bool, isi_non_str, isi_non_tuple, isi_non_list, isi_non_dict, isi_tup_int, isi_tup_bool, isi_tup_str, isi_tup_tuple, isi_tup_list, isi_tup_dict, isi_frl_int, isi_frl_bool, isi_frl_str, isi_frl_tuple, isi_frl_list, isi_frl_dict, gTup_0, gLst_0, gTup_1, gLst_1, gTup_2, gLst_2, gTup_3, gLst_3, gTup_4, gLst_4, gTup_5, gLst_5, gTup_6, gLst_6, gTup_7, gLst_7, gTup_8, gLst_8, gTup_9, gLst_9, List.map_cons, List.map_nil, List.length_cons, List.length_nil, List.replicate_succ, List.replicate_zero, List.cons_append, List.nil_append, List.set_cons_succ, List.set_cons_zero, List.getElem?_cons_succ, List.getElem?_cons_zero, Nat.reduceAdd, Nat.reduceSub, Nat.zero_add, Nat.add_zero, Bool.not_true, Bool.not_false, decide_true, decide_false, ne_eq, not_false_eq_true, not_true_eq_false, Bool.false_eq_true, Bool.true_eq_false, e, cmp_neg, k, if_true]
  · simp -implicitDefEqProofs only [gc_same, gc_ex, gc_no, ev_seq, thenS_nx, thenS_rt, thenS_bk, thenS_ct, thenS_ex, ev_skip, ev_brk, ev_cnt, ev_var, ev_c, ev_un, un1_ok, ev_bin, bin1_ok, bin2_ok, bin1_ex, bin2_ex, ev_tb, tb1_ok, tb1_ex, ev_tru, tr1_bl, tr1_non, tr1_int, tr1_str, tr1_tup, tr1_frl, tr1_ex, ev_nil, ev_cons, cons1_ok, cons2_ok, cons1_ex, cons2_ex, ev_args, arg1_ok, arg1_ex, ev_and, and1_t, and1_f, and1_ex, ev_or, or1_t, or1_f, or1_ex, ev_not, not1_ok, not1_ex, ev_andV, andV1_t, andV1_f, andV1_ex, ev_orV, orV1_t, orV1_f, orV1_ex, ev_notV, notV1_ok, notV1_ex, ev_ifE, ifE1_t, ifE1_f, ev_if, ifS1_t, ifS1_f, ifS1_ex, ev_set, set1_ok, set1_ex, ev_drop, drop1_ok, drop1_ex, ev_ret, ret1_ok, ret1_ex, ev_retN, ev_par, par1_ok, ev_asg, asg1_ok, asg1_ex, asg2_ok, ev_tgN, ev_tgT, ev_tgCons, tgC_ok, ev_tgNil, ev_semOf, fin1_nx, fin1_rt, fin1_ex, gAdd_int, gSub_int, gMul_int, gFdiv_int, gMod_int, gNeg_int, gLt_int, gLe_int, gGt_int, gGe_int, gEq_int, gNe_int, gIs_bb, gIsN_bb, gIs_non, gIs_tn, gIs_in, gIs_on, gIs_sn, gIsN_non, gIsN_tn, gIsN_in, gIsN_on, gIsN_sn, gIx_tup0, gIx_tup1, gIx_tup2, gIx_tup3, gIx_tup4, gLen_tup, gLen_frl, gLen_str, gInt_int, gInt_bl, gAbs_int, gMax_int, gMin_int, gGcd_int, gLcm_int, gList_tup, gTuple_tup, ev_for, for1_ok, for1_ex, forT_ok, forB_nx, forB_ct, forB_bk, forB_rt, forB_ex, ev_it, it1_tup, it1_frl, it1_str, ev_itA, itA1_ok, ev_sl, sl1_ok, sl2_ok, sl3_ok, ev_noPart, ev_part, part1_ok, gSlc_tup, gSlc_str, ev_sto, sto1_ok, sto2_ok, ev_raise, ev_chain, ch1_ok, ch2_ok, ch3_t, ch3_f, kd_int, kd_bl, kd_str, kd_non, kd_tup, isi_int_int, isi_int_bool, isi_int_str, isi_int_tuple, isi_int_list, isi_int_dict, isi_bl_int, isi_bl_bool, isi_bl_str, isi_bl_tuple, isi_bl_list, isi_bl_dict, isi_str_int, isi_str_bool, isi_str_str, isi_str_tuple, isi_str_list, isi_str_dict, isi_non_int, isi_non_bool, isi_non_str, isi_non_tuple, isi_non_list, isi_non_dict, isi_tup_int, isi_tup_bool, isi_tup_str, isi_tup_tuple, isi_tup_list, isi_tup_dict, isi_frl_int, isi_frl_bool, isi_frl_str, isi_frl_tuple, isi_frl_list, isi_frl_dict, gTup_0, gLst_0, gTup_1, gLst_1, gTup_2, gLst_2, gTup_3, gLst_3, gTup_4, gLst_4, gTup_5, gLst_5, gTup_6, gLst_6, gTup_7, gLst_7, gTup_8, gLst_8, gTup_9, gLst_9, List.map_cons, List.map_nil, List.length_cons, List.length_nil, List.replicate_succ, List.replicate_zero, List.cons_append, List.nil_append, List.set_cons_succ, List.set_cons_zero, List.getElem?_cons_succ, List.getElem?_cons_zero, Nat.reduceAdd, Nat.reduceSub, Nat.zero_add, Nat.add_zero, Bool.not_true, Bool.not_false, decide_true, decide_false, ne_eq, not_false_eq_true, not_true_eq_false, Bool.false_eq_true, Bool.true_eq_false, e, cmp_neg, k, if_false]
theorem greater_ok (a : Sm P) (b : Sm Q) (c : Sm R) (d : Sm S) : sem_greater [fr P Q, fr R S] h = .ok (if P * S < R * Q then fr R S else fr P Q) h := by
  have e := compare_ok h (smOk c b) (smOk a d)
  unfold sem_greater body_greater
  by_cases k : P * S < R * Q
  · simp -implicitDefEqProofs only [gc_same, gc_ex, gc_no, ev_seq, thenS_nx, thenS_rt, thenS_bk, thenS_ct, thenS_ex, ev_skip, ev_brk, ev_cnt, ev_var, ev_c, ev_un, un1_ok, ev_bin, bin1_ok, bin2_ok, bin1_ex, bin2_ex, ev_tb, tb1_ok, tb1_ex, ev_tru, tr1_bl, tr1_non, tr1_int, tr1_str, tr1_tup, tr1_frl, tr1_ex, ev_nil, ev_cons, cons1_ok, cons2_ok, cons1_ex, cons2_ex, ev_args, arg1_ok, arg1_ex, ev_and, and1_t, and1_f, and1_ex, ev_or, or1_t, or1_f, or1_ex, ev_not, not1_ok, not1_ex, ev_andV, andV1_t, andV1_f, andV1_ex, ev_orV, orV1_t, orV1_f, orV1_ex, ev_notV, notV1_ok, notV1_ex, ev_ifE, ifE1_t, ifE1_f, ev_if, ifS1_t, ifS1_f, ifS1_ex, ev_set, set1_ok, set1_ex, ev_drop, drop1_ok, drop1_ex, ev_ret, ret1_ok, ret1_ex, ev_retN, ev_par, par1_ok, ev_asg, asg1_ok, asg1_ex, asg2_ok, ev_tgN, ev_tgT, ev_tgCons, tgC_ok, ev_tgNil, ev_semOf, fin1_nx, fin1_rt, fin1_ex, gAdd_int, gSub_int, gMul_int, gFdiv_int, gMod_int, gNeg_int, gLt_int, gLe_int, gGt_int, gGe_int, gEq_int, gNe_int, gIs_bb, gIsN_bb, gIs_non, gIs_tn, gIs_in, gIs_on, gIs_sn, gIsN_non, gIsN_tn, gIsN_in, gIsN_on, gIsN_sn, gIx_tup0, gIx_tup1, gIx_tup2, gIx_tup3, gIx_tup4, gLen_tup, gLen_frl, gLen_str, gInt_int, gInt_bl, gAbs_int, gMax_int, gMin_int, gGcd_int, gLcm_int, gList_tup, gTuple_tup, ev_for, for1_ok, for1_ex, forT_ok, forB_nx, forB_ct, forB_bk, forB_rt, forB_ex, ev_it, it1_tup, it1_frl, it1_str, ev_itA, itA1_ok, ev_sl, sl1_ok, sl2_ok, sl3_ok, ev_noPart, ev_part, part1_ok, gSlc_tup, gSlc_str, ev_sto, sto1_ok, sto2_ok, ev_raise, ev_chain, ch1_ok, ch2_ok, ch3_t, ch3_f, kd_int, kd_bl, kd_str, kd_non, kd_tup, isi_int_int, isi_int_bool, isi_int_str, isi_int_tuple, isi_int_list, isi_int_dict, isi_bl_int, isi_bl_bool, isi_bl_str, isi_bl_tuple, isi_bl_list, isi_bl_dict, isi_str_int, isi_str_bool, isi_str_str, isi_str_tuple, isi_str_list, isi_str_dict, isi_non_int, isi_non_bool, isi_non_str, isi_non_tuple, isi_non_list, isi_non_dict, isi_tup_int, isi_tup_bool, isi_tup_str, isi_tup_tuple, isi_tup_list, isi_tup_dict, isi_frl_int, isi_frl_bool, isi_frl_str, isi_frl_tuple, isi_frl_list, isi_frl_dict, gTup_0, gLst_0, gTup_1, gLst_1, gTup_2, gLst_2, gTup_3, gLst_3, gTup_4, gLst_4, gTup_5, gLst_5, gTup_6, gLst_6, gTup_7, gLst_7, gTup_8, gLst_8, gTup_9, gLst_9, List.map_cons, List.map_nil, List.length_cons, List.length_nil, List.replicate_succ, List.replicate_zero, List.cons_append, List.nil_append, List.set_cons_succ, List.set_cons_zero, List.getElem?_cons_succ, List.getElem?_cons_zero, Nat.reduceAdd, Nat.reduceSub, Nat.zero_add, Nat.add_zero, Bool.not_true, Bool.not_false, decide_true, decide_false, ne_eq, not_false_eq_true, not_true_eq_false, Bool.false_eq_true, Bool.true_eq_false, e, cmp_pos, k, if_true]
  · simp -implicitDefEqProofs only [gc_same, gc_ex, gc_no, ev_seq, thenS_nx, thenS_rt, thenS_bk, thenS_ct, thenS_ex, ev_skip, ev_brk, ev_cnt, ev_var, ev_c, ev_un, un1_ok, ev_bin, bin1_ok, bin2_ok, bin1_ex, bin2_ex, ev_tb, tb1_ok, tb1_ex, ev_tru, tr1_bl, tr1_non, tr1_int, tr1_str, tr1_tup, tr1_frl, tr1_ex, ev_nil, ev_cons, cons1_ok, cons2_ok, cons1_ex, cons2_ex, ev_args, arg1_ok, arg1_ex, ev_and, and1_t, and1_f, and1_ex, ev_or, or1_t, or1_f, or1_ex, ev_not, not1_ok, not1_ex, ev_andV, andV1_t, andV1_f, andV1_ex, ev_orV, orV1_t, orV1_f, orV1_ex, ev_notV, notV1_ok, notV1_ex, ev_ifE, ifE1_t, ifE1_f, ev_if, ifS1_t, ifS1_f, ifS1_ex, ev_set, set1_ok, set1_ex, ev_drop, drop1_ok, drop1_ex, ev_ret, ret1_ok, ret1_ex, ev_retN, ev_par, par1_ok, ev_asg, asg1_ok, asg1_ex, asg2_ok, ev_tgN, ev_tgT, ev_tgCons, tgC_ok, ev_tgNil, ev_semOf, fin1_nx, fin1_rt, fin1_ex, gAdd_int, gSub_int, gMul_int, gFdiv_int, gMod_int, gNeg_int, gLt_int, gLe_int, gGt_int, gGe_int, gEq_int, gNe_int, gIs_bb, gIsN_bb, gIs_non, gIs_tn, gIs_in, gIs_on, gIs_sn, gIsN_non, gIsN_tn, gIsN_in, gIsN_on, gIsN_sn, gIx_tup0, gIx_tup1, gIx_tup2, gIx_tup3, gIx_tup4, gLen_tup, gLen_frl, gLen_str, gInt_int, gInt_bl, gAbs_int, gMax_int, gMin_int, gGcd_int, gLcm_int, gList_tup, gTuple_tup, ev_for, for1_ok, for1_ex, forT_ok, forB_nx, forB_ct, forB_bk, forB_rt, forB_ex, ev_it, it1_tup, it1_frl, it1_str, ev_itA, itA1_ok, ev_sl, sl1_ok, sl2_ok, sl3_ok, ev_noPart, ev_part, part1_ok, gSlc_tup, gSlc_str, ev_sto, sto1_ok, sto2_ok, ev_raise, ev_chain, ch1_ok, ch2_ok, ch3_t, ch3_f, kd_int, kd_bl, kd_str, kd_non, kd_tup, isi_int_int, isi_int_bool, isi_int_str, isi_int_tuple, isi_int_list, isi_int_dict, isi_bl_int, isi_bl_bool, isi_bl_str, isi_bl_tuple, isi_bl_list, isi_bl_dict, isi_str_int, isi_str_bool, isi_str_str, isi_str_tuple, isi_str_list, isi_str_dict, isi_non_int, isi_non_bool, isi_non_str, isi_non_tuple, isi_non_list, isi_non_dict, isi_tup_int, isi_tup_bool, isi_tup_str, isi_tup_tuple, isi_tup_list, isi_tup_dict, isi_frl_int, isi_frl_bool, isi_frl_str, isi_frl_tuple, isi_frl_list, isi_frl_dict, gTup_0, gLst_0, gTup_1, gLst_1, gTup_2, gLst_2, gTup_3, gLst_3, gTup_4, gLst_4, gTup_5, gLst_5, gTup_6, gLst_6, gTup_7, gLst_7, gTup_8, gLst_8, gTup_9, gLst_9, List.map_cons, List.map_nil, List.length_cons, List.length_nil, List.replicate_succ, List.replicate_zero, List.cons_append, List.nil_append, List.set_cons_succ, List.set_cons_zero, List.getElem?_cons_succ, List.getElem?_cons_zero, Nat.reduceAdd, Nat.reduceSub, Nat.zero_add, Nat.add_zero, Bool.not_true, Bool.not_false, decide_true, decide_false, ne_eq, not_false_eq_true, not_true_eq_false, Bool.false_eq_true, Bool.true_eq_false, e, cmp_pos, k, if_false]
theorem floor_ok (a : Sm Q) (b : 0 < Q) : sem_floor_of [fr P Q] h = .ok (.int (P.fdiv Q)) h := by
  unfold sem_floor_of body_floor_of
  simp -implicitDefEqProofs only [gc_same, gc_ex, gc_no, ev_seq, thenS_nx, thenS_rt, thenS_bk, thenS_ct, thenS_ex, ev_skip, ev_brk, ev_cnt, ev_var, ev_c, ev_un, un1_ok, ev_bin, bin1_ok, bin2_ok, bin1_ex, bin2_ex, ev_tb, tb1_ok, tb1_ex, ev_tru, tr1_bl, tr1_non, tr1_int, tr1_str, tr1_tup, tr1_frl, tr1_ex, ev_nil, ev_cons, cons1_ok, cons2_ok, cons1_ex, cons2_ex, ev_args, arg1_ok, arg1_ex, ev_and, and1_t, and1_f, and1_ex, ev_or, or1_t, or1_f, or1_ex, ev_not, not1_ok, not1_ex, ev_andV, andV1_t, andV1_f, andV1_ex, ev_orV, orV1_t, orV1_f, orV1_ex, ev_notV, notV1_ok, notV1_ex, ev_ifE, ifE1_t, ifE1_f, ev_if, ifS1_t, ifS1_f, ifS1_ex, ev_set, set1_ok, set1_ex, ev_drop, drop1_ok, drop1_ex, ev_ret, ret1_ok, ret1_ex, ev_retN, ev_par, par1_ok, ev_asg, asg1_ok, asg1_ex, asg2_ok, ev_tgN, ev_tgT, ev_tgCons, tgC_ok, ev_tgNil, ev_semOf, fin1_nx, fin1_rt, fin1_ex, gAdd_int, gSub_int, gMul_int, gFdiv_int, gMod_int, gNeg_int, gLt_int, gLe_int, gGt_int, gGe_int, gEq_int, gNe_int, gIs_bb, gIsN_bb, gIs_non, gIs_tn, gIs_in, gIs_on, gIs_sn, gIsN_non, gIsN_tn, gIsN_in, gIsN_on, gIsN_sn, gIx_tup0, gIx_tup1, gIx_tup2, gIx_tup3, gIx_tup4, gLen_tup, gLen_frl, gLen_str, gInt_int, gInt_bl, gAbs_int, gMax_int, gMin_int, gGcd_int, gLcm_int, gList_tup, gTuple_tup, ev_for, for1_ok, for1_ex, forT_ok, forB_nx, forB_ct, forB_bk, forB_rt, forB_ex, ev_it, it1_tup, it1_frl, it1_str, ev_itA, itA1_ok, ev_sl, sl1_ok, sl2_ok, sl3_ok, ev_noPart, ev_part, part1_ok, gSlc_tup, gSlc_str, ev_sto, sto1_ok, sto2_ok, ev_raise, ev_chain, ch1_ok, ch2_ok, ch3_t, ch3_f, kd_int, kd_bl, kd_str, kd_non, kd_tup, isi_int_int, isi_int_bool, isi_int_str, isi_int_tuple, isi_int_list, isi_int_dict, isi_bl_int, isi_bl_bool, isi_bl_str, isi_bl_tuple, isi_bl_list, isi_bl_dict, isi_str_int, isi_str_bool, isi_str_str, isi_str_tuple, isi_str_list, isi_str_dict, isi_non_int, isi_non_bool, isi_non_str, isi_non_tuple, isi_non_list, isi_non_dict, isi_tup_int, isi_tup_bool, isi_tup_str, isi_tup_tuple, isi_tup_list, isi_tup_dict, isi_frl_int, isi_frl_bool, isi_frl_str, isi_frl_tuple, isi_frl_list, isi_frl_dict, gTup_0, gLst_0, gTup_1, gLst_1, gTup_2, gLst_2, gTup_3, gLst_3, gTup_4, gLst_4, gTup_5, gLst_5, gTup_6, gLst_6, gTup_7, gLst_7, gTup_8, gLst_8, gTup_9, gLst_9, List.map_cons, List.map_nil, List.length_cons, List.length_nil, List.replicate_succ, List.replicate_zero, List.cons_append, List.nil_append, List.set_cons_succ, List.set_cons_zero, List.getElem?_cons_succ, List.getElem?_cons_zero, Nat.reduceAdd, Nat.reduceSub, Nat.zero_add, Nat.add_zero, Bool.not_true, Bool.not_false, decide_true, decide_false, ne_eq, not_false_eq_true, not_true_eq_false, Bool.false_eq_true, Bool.true_eq_false, gIx_fr0, gIx_fr1, smDiv a b]
theorem ceiling_ok (a : Sm Q) (b : 0 < Q) : sem_ceiling_of [fr P Q] h = .ok (.int (-((-P).fdiv Q))) h := by
  unfold sem_ceiling_of body_ceiling_of
  simp -implicitDefEqProofs only [gc_same, gc_ex, gc_no, ev_seq, thenS_nx, thenS_rt, thenS_bk, thenS_ct, thenS_ex, ev_skip, ev_brk, ev_cnt, ev_var, ev_c, ev_un, un1_ok, ev_bin, bin1_ok, bin2_ok, bin1_ex, bin2_ex, ev_tb, tb1_ok, tb1_ex, ev_tru, tr1_bl, tr1_non, tr1_int, tr1_str, tr1_tup, tr1_frl, tr1_ex, ev_nil, ev_cons, cons1_ok, cons2_ok, cons1_ex, cons2_ex, ev_args, arg1_ok, arg1_ex, ev_and, and1_t, and1_f, and1_ex, ev_or, or1_t, or1_f, or1_ex, ev_not, not1_ok, not1_ex, ev_andV, andV1_t, andV1_f, andV1_ex, ev_orV, orV1_t, orV1_f, orV1_ex, ev_notV, notV1_ok, notV1_ex, ev_ifE, ifE1_t, ifE1_f, ev_if, ifS1_t, ifS1_f, ifS1_ex, ev_set, set1_ok, set1_ex, ev_drop, drop1_ok, drop1_ex, ev_ret, ret1_ok, ret1_ex, ev_retN, ev_par, par1_ok, ev_asg, asg1_ok, asg1_ex, asg2_ok, ev_tgN, ev_tgT, ev_tgCons, tgC_ok, ev_tgNil, ev_semOf, fin1_nx, fin1_rt, fin1_ex, gAdd_int, gSub_int, gMul_int, gFdiv_int, gMod_int, gNeg_int, gLt_int, gLe_int, gGt_int, gGe_int, gEq_int, gNe_int, gIs_bb, gIsN_bb, gIs_non, gIs_tn, gIs_in, gIs_on, gIs_sn, gIsN_non, gIsN_tn, gIsN_in, gIsN_on, gIsN_sn, gIx_tup0, gIx_tup1, gIx_tup2, gIx_tup3, gIx_tup4, gLen_tup, gLen_frl, gLen_str, gInt_int, gInt_bl, gAbs_int, gMax_int, gMin_int, gGcd_int, gLcm_int, gList_tup, gTuple_tup, ev_for, for1_ok, for1_ex, forT_ok, forB_nx, forB_ct, forB_bk, forB_rt, forB_ex, ev_it, it1_tup, it1_frl, it1_str, ev_itA, itA1_ok, ev_sl, sl1_ok, sl2_ok, sl3_ok, ev_noPart, ev_part, part1_ok, gSlc_tup, gSlc_str, ev_sto, sto1_ok, sto2_ok, ev_raise, ev_chain, ch1_ok, ch2_ok, ch3_t, ch3_f, kd_int, kd_bl, kd_str, kd_non, kd_tup, isi_int_int, isi_int_bool, isi_int_str, isi_int_tuple, isi_int_list, isi_int_dict, isi_bl_int, isi_bl_bool, isi_bl_str, isi_bl_tuple, isi_bl_list, isi_bl_dict, isi_str_int, isi_str_bool, isi_str_str, isi_str_tuple, isi_str_list, isi_str_dict, isi_non_int, isi_non_bool, isi_non_str, isi_non_tuple, isi_non_list, isi_non_dict, isi_tup_int, isi_tup_bool, isi_tup_str, isi_tup_tuple, isi_tup_list, isi_tup_dict, isi_frl_int, isi_frl_bool, isi_frl_str, isi_frl_tuple, isi_frl_list, isi_frl_dict, gTup_0, gLst_0, gTup_1, gLst_1, gTup_2, gLst_2, gTup_3, gLst_3, gTup_4, gLst_4, gTup_5, gLst_5, gTup_6, gLst_6, gTup_7, gLst_7, gTup_8, gLst_8, gTup_9, gLst_9, List.map_cons, List.map_nil, List.length_cons, List.length_nil, List.replicate_succ, List.replicate_zero, List.cons_append, List.nil_append, List.set_cons_succ, List.set_cons_zero, List.getElem?_cons_succ, List.getElem?_cons_zero, Nat.reduceAdd, Nat.reduceSub, Nat.zero_add, Nat.add_zero, Bool.not_true, Bool.not_false, decide_true, decide_false, ne_eq, not_false_eq_true, not_true_eq_false, Bool.false_eq_true, Bool.true_eq_false, gIx_fr0, gIx_fr1, smDiv a b]
theorem fr_eq (F : Fr P Q) (G : Fr R S) (e : P * S = R * Q) : P = R ∧ Q = S := by
  have e' : P.natAbs * S.natAbs = R.natAbs * Q.natAbs := by rw [← Int.natAbs_mul, ← Int.natAbs_mul, e]
  have d1 : Q.natAbs ∣ S.natAbs := Nat.Coprime.dvd_of_dvd_mul_left (Nat.Coprime.symm F.cop) (by rw [e']; exact Nat.dvd_mul_left _ _)
  have d2 : S.natAbs ∣ Q.natAbs := Nat.Coprime.dvd_of_dvd_mul_left (Nat.Coprime.symm G.cop) (by rw [← e']; exact Nat.dvd_mul_left _ _)
  have f := F.pos
  have g := G.pos
  have d3 := Nat.dvd_antisymm d1 d2
  have q : Q = S := by omega
  subst q
  exact ⟨Int.eq_of_mul_eq_mul_right (by omega) e, rfl⟩
theorem orders_ok (F : Fr P Q) (G : Fr R S) (a : Sm P) (b : Sm Q) (c : Sm R) (d : Sm S) : sem__law_orders [fr P Q, fr R S] h = .ok (.bl true) h := by
  have q0 := F.pos
  have e1 := law_order_ok (smOk a d) (smOk c b) h
  have e2 := compare_ok h (smOk a d) (smOk c b)
  have e3 := compare_ok h (smOk c b) (smOk a d)
  have e4 := compare_ok h (smOk a b) (smOk a b)
  have e5 := lesser_ok (h := h) a b c d
  have e6 := greater_ok (h := h) a b c d
  have e7 := floor_ok (P := P) (h := h) b q0
  have e8 := ceiling_ok (P := P) (h := h) b q0
  rw [cmp_swap] at e3
  rw [cmp_self] at e4
  unfold sem__law_orders body__law_orders
  rcases Int.lt_trichotomy (P * S) (R * Q) with k | k | k
  · have k1 : ¬ (R * Q < P * S) := by omega
    rw [if_neg k1] at e5
    rw [if_pos k] at e6
    simp -implicitDefEqProofs only [gc_same, gc_ex, gc_no, ev_seq, thenS_nx, thenS_rt, thenS_bk, thenS_ct, thenS_ex, ev_skip, ev_brk, ev_cnt, ev_var, ev_c, ev_un, un1_ok, ev_bin, bin1_ok, bin2_ok, bin1_ex, bin2_ex, ev_tb, tb1_ok, tb1_ex, ev_tru, tr1_bl, tr1_non, tr1_int, tr1_str, tr1_tup, tr1_frl, tr1_ex, ev_nil, ev_cons, cons1_ok, cons2_ok, cons1_ex, cons2_ex, ev_args, arg1_ok, arg1_ex, ev_and, and1_t, and1_f, and1_ex, ev_or, or1_t, or1_f, or1_ex, ev_not, not1_ok, not1_ex, ev_andV, andV1_t, andV1_f, andV1_ex, ev_orV, orV1_t, orV1_f, orV1_ex, ev_notV, notV1_ok, notV1_ex, ev_ifE, ifE1_t, ifE1_f, ev_if, ifS1_t, ifS1_f, ifS1_ex, ev_set, set1_ok, set1_ex, ev_drop, drop1_ok, drop1_ex, ev_ret, ret1_ok, ret1_ex, ev_retN, ev_par, par1_ok, ev_asg, asg1_ok, asg1_ex, asg2_ok, ev_tgN, ev_tgT, ev_tgCons, tgC_ok, ev_tgNil, ev_semOf, fin1_nx, fin1_rt, fin1_ex, gAdd_int, gSub_int, gMul_int, gFdiv_int, gMod_int, gNeg_int, gLt_int, gLe_int, gGt_int, gGe_int, gEq_int, gNe_int, gIs_bb, gIsN_bb, gIs_non, gIs_tn, gIs_in, gIs_on, gIs_sn, gIsN_non, gIsN_tn, gIsN_in, gIsN_on, gIsN_sn, gIx_tup0, gIx_tup1, gIx_tup2, gIx_tup3, gIx_tup4, gLen_tup, gLen_frl, gLen_str, gInt_int, gInt_bl, gAbs_int, gMax_int, gMin_int, gGcd_int, gLcm_int, gList_tup, gTuple_tup, ev_for, for1_ok, for1_ex, forT_ok, forB_nx, forB_ct, forB_bk, forB_rt, forB_ex, ev_it, it1_tup, it1_frl, it1_str, ev_itA, itA1_ok, ev_sl, sl1_ok, sl2_ok, sl3_ok, ev_noPart, ev_part, part1_ok, gSlc_tup, gSlc_str, ev_sto, sto1_ok, sto2_ok, ev_raise, ev_chain, ch1_ok, ch2_ok, ch3_t, ch3_f, kd_int, kd_bl, kd_str, kd_non, kd_tup, isi_int_int, isi_int_bool, isi_int_str, isi_int_tuple, isi_int_list, isi_int_dict, isi_bl_int, isi_bl_bool, isi_bl_str, isi_bl_tuple, isi_bl_list, isi_bl_dict, isi_str_int, isi_str_bool, isi_str_str, isi_str_tuple, isi_str_list, isi_str_dict, isi_non_int, isi_non_bool, isi_non_str, isi_non_tuple, isi_non_list, isi_non_dict, isi_tup_int, isi_tup_bool, isi_tup_str, isi_tup_tuple, isi_tup_list, isi_tup_dict, isi_frl_int, isi_frl_bool, isi_frl_str, isi_frl_tuple, isi_frl_list, isi_frl_dict, gTup_0, gLst_0, gTup_1, gLst_1, gTup_2, gLst_2, gTup_3, gLst_3, gTup_4, gLst_4, gTup_5, gLst_5, gTup_6, gLst_6, gTup_7, gLst_7, gTup_8, gLst_8, gTup_9, gLst_9, List.map_cons, List.map_nil, List.length_cons, List.length_nil, List.replicate_succ, List.replicate_zero, List.cons_append, List.nil_append, List.set_cons_succ, List.set_cons_zero, List.getElem?_cons_succ, List.getElem?_cons_zero, Nat.reduceAdd, Nat.reduceSub, Nat.zero_add, Nat.add_zero, Bool.not_true, Bool.not_false, decide_true, decide_false, ne_eq, not_false_eq_true, not_true_eq_false, Bool.false_eq_true, Bool.true_eq_false, e1, e2, e3, e4, e5, e6, e7, e8, cmp_pos, k, k1, gIx_fr0, gIx_fr1, smDiv b q0, law_is_whole_int, gNe_fr]
  · have k1 : ¬ (R * Q < P * S) := by omega
    have k2 : ¬ (P * S < R * Q) := by omega
    rw [if_neg k1] at e5
    rw [if_neg k2] at e6
    obtain ⟨rfl, rfl⟩ := fr_eq F G k
    simp -implicitDefEqProofs only [gc_same, gc_ex, gc_no, ev_seq, thenS_nx, thenS_rt, thenS_bk, thenS_ct, thenS_ex, ev_skip, ev_brk, ev_cnt, ev_var, ev_c, ev_un, un1_ok, ev_bin, bin1_ok, bin2_ok, bin1_ex, bin2_ex, ev_tb, tb1_ok, tb1_ex, ev_tru, tr1_bl, tr1_non, tr1_int, tr1_str, tr1_tup, tr1_frl, tr1_ex, ev_nil, ev_cons, cons1_ok, cons2_ok, cons1_ex, cons2_ex, ev_args, arg1_ok, arg1_ex, ev_and, and1_t, and1_f, and1_ex, ev_or, or1_t, or1_f, or1_ex, ev_not, not1_ok, not1_ex, ev_andV, andV1_t, andV1_f, andV1_ex, ev_orV, orV1_t, orV1_f, orV1_ex, ev_notV, notV1_ok, notV1_ex, ev_ifE, ifE1_t, ifE1_f, ev_if, ifS1_t, ifS1_f, ifS1_ex, ev_set, set1_ok, set1_ex, ev_drop, drop1_ok, drop1_ex, ev_ret, ret1_ok, ret1_ex, ev_retN, ev_par, par1_ok, ev_asg, asg1_ok, asg1_ex, asg2_ok, ev_tgN, ev_tgT, ev_tgCons, tgC_ok, ev_tgNil, ev_semOf, fin1_nx, fin1_rt, fin1_ex, gAdd_int, gSub_int, gMul_int, gFdiv_int, gMod_int, gNeg_int, gLt_int, gLe_int, gGt_int, gGe_int, gEq_int, gNe_int, gIs_bb, gIsN_bb, gIs_non, gIs_tn, gIs_in, gIs_on, gIs_sn, gIsN_non, gIsN_tn, gIsN_in, gIsN_on, gIsN_sn, gIx_tup0, gIx_tup1, gIx_tup2, gIx_tup3, gIx_tup4, gLen_tup, gLen_frl, gLen_str, gInt_int, gInt_bl, gAbs_int, gMax_int, gMin_int, gGcd_int, gLcm_int, gList_tup, gTuple_tup, ev_for, for1_ok, for1_ex, forT_ok, forB_nx, forB_ct, forB_bk, forB_rt, forB_ex, ev_it, it1_tup, it1_frl, it1_str, ev_itA, itA1_ok, ev_sl, sl1_ok, sl2_ok, sl3_ok, ev_noPart, ev_part, part1_ok, gSlc_tup, gSlc_str, ev_sto, sto1_ok, sto2_ok, ev_raise, ev_chain, ch1_ok, ch2_ok, ch3_t, ch3_f, kd_int, kd_bl, kd_str, kd_non, kd_tup, isi_int_int, isi_int_bool, isi_int_str, isi_int_tuple, isi_int_list, isi_int_dict, isi_bl_int, isi_bl_bool, isi_bl_str, isi_bl_tuple, isi_bl_list, isi_bl_dict, isi_str_int, isi_str_bool, isi_str_str, isi_str_tuple, isi_str_list, isi_str_dict, isi_non_int, isi_non_bool, isi_non_str, isi_non_tuple, isi_non_list, isi_non_dict, isi_tup_int, isi_tup_bool, isi_tup_str, isi_tup_tuple, isi_tup_list, isi_tup_dict, isi_frl_int, isi_frl_bool, isi_frl_str, isi_frl_tuple, isi_frl_list, isi_frl_dict, gTup_0, gLst_0, gTup_1, gLst_1, gTup_2, gLst_2, gTup_3, gLst_3, gTup_4, gLst_4, gTup_5, gLst_5, gTup_6, gLst_6, gTup_7, gLst_7, gTup_8, gLst_8, gTup_9, gLst_9, List.map_cons, List.map_nil, List.length_cons, List.length_nil, List.replicate_succ, List.replicate_zero, List.cons_append, List.nil_append, List.set_cons_succ, List.set_cons_zero, List.getElem?_cons_succ, List.getElem?_cons_zero, Nat.reduceAdd, Nat.reduceSub, Nat.zero_add, Nat.add_zero, Bool.not_true, Bool.not_false, decide_true, decide_false, ne_eq, not_false_eq_true, not_true_eq_false, Bool.false_eq_true, Bool.true_eq_false, e1, e2, e3, e4, e5, e6, e7, e8, cmp_pos, cmp_self, Int.neg_zero, Int.lt_irrefl, gIx_fr0, gIx_fr1, smDiv b q0, law_is_whole_int, gNe_fr]
  · have k2 : ¬ (P * S < R * Q) := by omega
    rw [if_pos k] at e5
    rw [if_neg k2] at e6
    simp -implicitDefEqProofs only [gc_same, gc_ex, gc_no, ev_seq, thenS_nx, thenS_rt, thenS_bk, thenS_ct, thenS_ex, ev_skip, ev_brk, ev_cnt, ev_var, ev_c, ev_un, un1_ok, ev_bin, bin1_ok, bin2_ok, bin1_ex, bin2_ex, ev_tb, tb1_ok, tb1_ex, ev_tru, tr1_bl, tr1_non, tr1_int, tr1_str, tr1_tup, tr1_frl, tr1_ex, ev_nil, ev_cons, cons1_ok, cons2_ok, cons1_ex, cons2_ex, ev_args, arg1_ok, arg1_ex, ev_and, and1_t, and1_f, and1_ex, ev_or, or1_t, or1_f, or1_ex, ev_not, not1_ok, not1_ex, ev_andV, andV1_t, andV1_f, andV1_ex, ev_orV, orV1_t, orV1_f, orV1_ex, ev_notV, notV1_ok, notV1_ex, ev_ifE, ifE1_t, ifE1_f, ev_if, ifS1_t, ifS1_f, ifS1_ex, ev_set, set1_ok, set1_ex, ev_drop, drop1_ok, drop1_ex, ev_ret, ret1_ok, ret1_ex, ev_retN, ev_par, par1_ok, ev_asg, asg1_ok, asg1_ex, asg2_ok, ev_tgN, ev_tgT, ev_tgCons, tgC_ok, ev_tgNil, ev_semOf, fin1_nx, fin1_rt, fin1_ex, gAdd_int, gSub_int, gMul_int, gFdiv_int, gMod_int, gNeg_int, gLt_int, gLe_int, gGt_int, gGe_int, gEq_int, gNe_int, gIs_bb, gIsN_bb, gIs_non, gIs_tn, gIs_in, gIs_on, gIs_sn, gIsN_non, gIsN_tn, gIsN_in, gIsN_on, gIsN_sn, gIx_tup0, gIx_tup1, gIx_tup2, gIx_tup3, gIx_tup4, gLen_tup, gLen_frl, gLen_str, gInt_int, gInt_bl, gAbs_int, gMax_int, gMin_int, gGcd_int, gLcm_int, gList_tup, gTuple_tup, ev_for, for1_ok, for1_ex, forT_ok, forB_nx, forB_ct, forB_bk, forB_rt, forB_ex, ev_it, it1_tup, it1_frl, it1_str, ev_itA, itA1_ok, ev_sl, sl1_ok, sl2_ok, sl3_ok, ev_noPart, ev_part, part1_ok, gSlc_tup, gSlc_str, ev_sto, sto1_ok, sto2_ok, ev_raise, ev_chain, ch1_ok, ch2_ok, ch3_t, ch3_f, kd_int, kd_bl, kd_str, kd_non, kd_tup, isi_int_int, isi_int_bool, isi_int_str, isi_int_tuple, isi_int_list, isi_int_dict, isi_bl_int, isi_bl_bool, isi_bl_str, isi_bl_tuple, isi_bl_list, isi_bl_dict, isi_str_int, isi_str_bool, isi_str_str, isi_str_tuple, isi_str_list, isi_str_dict, isi_non_int, isi_non_bool, isi_non_str, isi_non_tuple, isi_non_list, isi_non_dict, isi_tup_int, isi_tup_bool, isi_tup_str, isi_tup_tuple, isi_tup_list, isi_tup_dict, isi_frl_int, isi_frl_bool, isi_frl_str, isi_frl_tuple, isi_frl_list, isi_frl_dict, gTup_0, gLst_0, gTup_1, gLst_1, gTup_2, gLst_2, gTup_3, gLst_3, gTup_4, gLst_4, gTup_5, gLst_5, gTup_6, gLst_6, gTup_7, gLst_7, gTup_8, gLst_8, gTup_9, gLst_9, List.map_cons, List.map_nil, List.length_cons, List.length_nil, List.replicate_succ, List.replicate_zero, List.cons_append, List.nil_append, List.set_cons_succ, List.set_cons_zero, List.getElem?_cons_succ, List.getElem?_cons_zero, Nat.reduceAdd, Nat.reduceSub, Nat.zero_add, Nat.add_zero, Bool.not_true, Bool.not_false, decide_true, decide_false, ne_eq, not_false_eq_true, not_true_eq_false, Bool.false_eq_true, Bool.true_eq_false, e1, e2, e3, e4, e5, e6, e7, e8, cmp_pos, k, k2, gIx_fr0, gIx_fr1, smDiv b q0, law_is_whole_int, gNe_fr]
end
end Mill
end

section
set_option Elab.async false
set_option linter.all false
set_option maxRecDepth 100000
set_option maxHeartbeats 1000000
namespace Mill
open PySem DL
section
variable {P Q R S : Int} {h : DHp}
theorem whole_int (i : Int) (h : DHp) : sem_is_whole [.int i] h = .ok (.bl true) h := by
  unfold sem_is_whole body_is_whole
  simp -implicitDefEqProofs only [gc_same, gc_ex, gc_no, ev_seq, thenS_nx, thenS_rt, thenS_bk, thenS_ct, thenS_ex, ev_skip, ev_brk, ev_cnt, ev_var, ev_c, ev_un, un1_ok, ev_bin, bin1_ok, bin2_ok, bin1_ex, bin2_ex, ev_tb, tb1_ok, tb1_ex, ev_tru, tr1_bl, tr1_non, tr1_int, tr1_str, tr1_tup, tr1_frl, tr1_ex, ev_nil, ev_cons, cons1_ok, cons2_ok, cons1_ex, cons2_ex, ev_args, arg1_ok, arg1_ex, ev_and, and1_t, and1_f, and1_ex, ev_or, or1_t, or1_f, or1_ex, ev_not, not1_ok, not1_ex, ev_andV, andV1_t, andV1_f, andV1_ex, ev_orV, orV1_t, orV1_f, orV1_ex, ev_notV, notV1_ok, notV1_ex, ev_ifE, ifE1_t, ifE1_f, ev_if, ifS1_t, ifS1_f, ifS1_ex, ev_set, set1_ok, set1_ex, ev_drop, drop1_ok, drop1_ex, ev_ret, ret1_ok, ret1_ex, ev_retN, ev_par, par1_ok, ev_asg, asg1_ok, asg1_ex, asg2_ok, ev_tgN, ev_tgT, ev_tgCons, tgC_ok, ev_tgNil, ev_semOf, fin1_nx, fin1_rt, fin1_ex, gAdd_int, gSub_int, gMul_int, gFdiv_int, gMod_int, gNeg_int, gLt_int, gLe_int, gGt_int, gGe_int, gEq_int, gNe_int, gIs_bb, gIsN_bb, gIs_non, gIs_tn, gIs_in, gIs_on, gIs_sn, gIsN_non, gIsN_tn, gIsN_in, gIsN_on, gIsN_sn, gIx_tup0, gIx_tup1, gIx_tup2, gIx_tup3, gIx_tup4, gLen_tup, gLen_frl, gLen_str, gInt_int, gInt_bl, gAbs_int, gMax_int, gMin_int, gGcd_int, gLcm_int, gList_tup, gTuple_tup, ev_for, for1_ok, for1_ex, forT_ok, forB_nx, forB_ct, forB_bk, forB_rt, forB_ex, ev_it, it1_tup, it1_frl, it1_str, ev_itA, itA1_ok, ev_sl, sl1_ok, sl2_ok, sl3_ok, ev_noPart, ev_part, part1_ok, gSlc_tup, gSlc_str, ev_sto, sto1_ok, sto2_ok, ev_raise, ev_chain, ch1_ok, ch2_ok, ch3_t, ch3_f, kd_int, kd_bl, kd_str, kd_non, kd_tup, isi_int_int, isi_int_bool, isi_int_str, isi_int_tuple, isi_int_list, isi_int_dict, isi_bl_int, isi_bl_bool, isi_bl_str, isi_bl_tuple, isi_bl_list, isi_bl_dict, isi_str_int, isi_str_bool, isi_str_str, isi_str_tuple, isi_str_list, isi_str_dict, isi_non_int, isi_non_bool, isi_non_str, isi_non_tuple, isi_non_list, isi_non_dict, isi_tup_int, isi_tup_bool, isi_tup_str, isi_tup_tuple, isi_tup_list, isi_tup_dict, isi_frl_int, isi_frl_bool, isi_frl_str, isi_frl_tuple, isi_frl_list, isi_frl_dict, gTup_0, gLst_0, gTup_1, gLst_1, gTup_2, gLst_2, gTup_3, gLst_3, gTup_4, gLst_4, gTup_5, gLst_5, gTup_6, gLst_6, gTup_7, gLst_7, gTup_8, gLst_8, gTup_9, gLst_9, List.map_cons, List.map_nil, List.length_cons, List.length_nil, List.replicate_succ, List.replicate_zero, List.cons_append, List.nil_append, List.set_cons_succ, List.set_cons_zero, List.getElem?_cons_succ, List.getElem?_cons_zero, Nat.reduceAdd, Nat.reduceSub, Nat.zero_add, Nat.add_zero, Bool.not_true, Bool.not_false, decide_true, decide_false, ne_eq, not_false_eq_true, not_true_eq_false, Bool.false_eq_true, Bool.true_eq_false]
theorem frac_fr (P Q : Int) (h : DHp) : sem_is_fraction [fr P Q] h = .ok (.bl (decide (0 < Q) && decide (Nat.gcd P.natAbs Q.natAbs = 1))) h := by
  unfold sem_is_fraction body_is_fraction
  have e : (((Nat.gcd P.natAbs Q.natAbs : Nat) : Int) = 1) = (Nat.gcd P.natAbs Q.natAbs = 1) := by apply propext; omega
  by_cases k : 0 < Q
  · simp -implicitDefEqProofs only [gc_same, gc_ex, gc_no, ev_seq, thenS_nx, thenS_rt, thenS_bk, thenS_ct, thenS_ex, ev_skip, ev_brk, ev_cnt, ev_var, ev_c, ev_un, un1_ok, ev_bin, bin1_ok, bin2_ok, bin1_ex, bin2_ex, ev_tb, tb1_ok, tb1_ex, ev_tru, tr1_bl, tr1_non, tr1_int, tr1_str, tr1_tup, tr1_frl, tr1_ex, ev_nil, ev_cons, cons1_ok, cons2_ok, cons1_ex, cons2_ex, ev_args, arg1_ok, arg1_ex, ev_and, and1_t, and1_f, and1_ex, ev_or, or1_t, or1_f, or1_ex, ev_not, not1_ok, not1_ex, ev_andV, andV1_t, andV1_f, andV1_ex, ev_orV, orV1_t, orV1_f, orV1_ex, ev_notV, notV1_ok, notV1_ex, ev_ifE, ifE1_t, ifE1_f, ev_if, ifS1_t, ifS1_f, ifS1_ex, ev_set, set1_ok, set1_ex, ev_drop, drop1_ok, drop1_ex, ev_ret, ret1_ok, ret1_ex, ev_retN, ev_par, par1_ok, ev_asg, asg1_ok, asg1_ex, asg2_ok, ev_tgN, ev_tgT, ev_tgCons, tgC_ok, ev_tgNil, ev_semOf, fin1_nx, fin1_rt, fin1_ex, gAdd_int, gSub_int, gMul_int, gFdiv_int, gMod_int, gNeg_int, gLt_int, gLe_int, gGt_int, gGe_int, gEq_int, gNe_int, gIs_bb, gIsN_bb, gIs_non, gIs_tn, gIs_in, gIs_on, gIs_sn, gIsN_non, gIsN_tn, gIsN_in, gIsN_on, gIsN_sn, gIx_tup0, gIx_tup1, gIx_tup2, gIx_tup3, gIx_tup4, gLen_tup, gLen_frl, gLen_str, gInt_int, gInt_bl, gAbs_int, gMax_int, gMin_int, gGcd_int, gLcm_int, gList_tup, gTuple_tup, ev_for, for1_ok, for1_ex, forT_ok, forB_nx, forB_ct, forB_bk, forB_rt, forB_ex, ev_it, it1_tup, it1_frl, it1_str, ev_itA, itA1_ok, ev_sl, sl1_ok, sl2_ok, sl3_ok, ev_noPart, ev_part, part1_ok, gSlc_tup, gSlc_str, ev_sto, sto1_ok, sto2_ok, ev_raise, ev_chain, ch1_ok, ch2_ok, ch3_t, ch3_f, kd_int, kd_bl, kd_str, kd_non, kd_tup, isi_int_int, isi_int_bool, isi_int_str, isi_int_tuple, isi_int_list, isi_int_dict, isi_bl_int, isi_bl_bool, isi_bl_str, isi_bl_tuple, isi_bl_list, isi_bl_dict, isi_str_int, isi_str_bool, isi_str_str, isi_str_tuple, isi_str_list, isi_str_dict, isi_non_int, isi_non_bool, isi_non_str, isi_non_tuple, isi_non_list, isi_non_dict, isi_tup_int, isi_tup_bool, isi_tup_str, isi_tup_tuple, isi_tup_list, isi_tup_dict, isi_frl_int, isi_frl_bool, isi_frl_str, isi_frl_tuple, isi_frl_list, isi_frl_dict, gTup_0, gLst_0, gTup_1, gLst_1, gTup_2, gLst_2, gTup_3, gLst_3, gTup_4, gLst_4, gTup_5, gLst_5, gTup_6, gLst_6, gTup_7, gLst_7, gTup_8, gLst_8, gTup_9, gLst_9, List.map_cons, List.map_nil, List.length_cons, List.length_nil, List.replicate_succ, List.replicate_zero, List.cons_append, List.nil_append, List.set_cons_succ, List.set_cons_zero, List.getElem?_cons_succ, List.getElem?_cons_zero, Nat.reduceAdd, Nat.reduceSub, Nat.zero_add, Nat.add_zero, Bool.not_true, Bool.not_false, decide_true, decide_false, ne_eq, not_false_eq_true, not_true_eq_false, Bool.false_eq_true, Bool.true_eq_false, gLen_fr, isi_fr_tuple, gIx_fr0, gIx_fr1, whole_int, k, e, Bool.true_and]
  · simp -implicitDefEqProofs only [gc_same, gc_ex, gc_no, ev_seq, thenS_nx, thenS_rt, thenS_bk, thenS_ct, thenS_ex, ev_skip, ev_brk, ev_cnt, ev_var, ev_c, ev_un, un1_ok, ev_bin, bin1_ok, bin2_ok, bin1_ex, bin2_ex, ev_tb, tb1_ok, tb1_ex, ev_tru, tr1_bl, tr1_non, tr1_int, tr1_str, tr1_tup, tr1_frl, tr1_ex, ev_nil, ev_cons, cons1_ok, cons2_ok, cons1_ex, cons2_ex, ev_args, arg1_ok, arg1_ex, ev_and, and1_t, and1_f, and1_ex, ev_or, or1_t, or1_f, or1_ex, ev_not, not1_ok, not1_ex, ev_andV, andV1_t, andV1_f, andV1_ex, ev_orV, orV1_t, orV1_f, orV1_ex, ev_notV, notV1_ok, notV1_ex, ev_ifE, ifE1_t, ifE1_f, ev_if, ifS1_t, ifS1_f, ifS1_ex, ev_set, set1_ok, set1_ex, ev_drop, drop1_ok, drop1_ex, ev_ret, ret1_ok, ret1_ex, ev_retN, ev_par, par1_ok, ev_asg, asg1_ok, asg1_ex, asg2_ok, ev_tgN, ev_tgT, ev_tgCons, tgC_ok, ev_tgNil, ev_semOf, fin1_nx, fin1_rt, fin1_ex, gAdd_int, gSub_int, gMul_int, gFdiv_int, gMod_int, gNeg_int, gLt_int, gLe_int, gGt_int, gGe_int, gEq_int, gNe_int, gIs_bb, gIsN_bb, gIs_non, gIs_tn, gIs_in, gIs_on, gIs_sn, gIsN_non, gIsN_tn, gIsN_in, gIsN_on, gIsN_sn, gIx_tup0, gIx_tup1, gIx_tup2, gIx_tup3, gIx_tup4, gLen_tup, gLen_frl, gLen_str, gInt_int, gInt_bl, gAbs_int, gMax_int, gMin_int, gGcd_int, gLcm_int, gList_tup, gTuple_tup, ev_for, for1_ok, for1_ex, forT_ok, forB_nx, forB_ct, forB_bk, forB_rt, forB_ex, ev_it, it1_tup, it1_frl, it1_str, ev_itA, itA1_ok, ev_sl, sl1_ok, sl2_ok, sl3_ok, ev_noPart, ev_part, part1_ok, gSlc_tup, gSlc_str, ev_sto, sto1_ok, sto2_ok, ev_raise, ev_chain, ch1_ok, ch2_ok, ch3_t, ch3_f, kd_int, kd_bl, kd_str, kd_non, kd_tup, isi_int_int, isi_int_bool, isi_int_str, isi_int_tuple, isi_int_list, isi_int_dict, isi_bl_int, isi_bl_bool, isi_bl_str, isi_bl_tuple, isi_bl_list, isi_bl_dict, isi_str_int, isi_str_bool, isi_str_str, isi_str_tuple, isi_str_list, isi_str_dict, isi_non_int, isi_non_bool, isi_non_str, isi_non_tuple, isi_non_list, isi_non_dict, isi_tup_int, isi_tup_bool, isi_tup_str, isi_tup_tuple, isi_tup_list, isi_tup_dict, isi_frl_int, isi_frl_bool, isi_frl_str, isi_frl_tuple, isi_frl_list, isi_frl_dict, gTup_0, gLst_0, gTup_1, gLst_1, gTup_2, gLst_2, gTup_3, gLst_3, gTup_4, gLst_4, gTup_5, gLst_5, gTup_6, gLst_6, gTup_7, gLst_7, gTup_8, gLst_8, gTup_9, gLst_9, List.map_cons, List.map_nil, List.length_cons, List.length_nil, List.replicate_succ, List.replicate_zero, List.cons_append, List.nil_append, List.set_cons_succ, List.set_cons_zero, List.getElem?_cons_succ, List.getElem?_cons_zero, Nat.reduceAdd, Nat.reduceSub, Nat.zero_add, Nat.add_zero, Bool.not_true, Bool.not_false, decide_true, decide_false, ne_eq, not_false_eq_true, not_true_eq_false, Bool.false_eq_true, Bool.true_eq_false, gLen_fr, isi_fr_tuple, gIx_fr0, gIx_fr1, whole_int, k, e, Bool.false_and]
theorem frac_int (i : Int) (h : DHp) : sem_is_fraction [.int i] h = .ok (.bl false) h := by
  unfold sem_is_fraction body_is_fraction
  simp -implicitDefEqProofs only [gc_same, gc_ex, gc_no, ev_seq, thenS_nx, thenS_rt, thenS_bk, thenS_ct, thenS_ex, ev_skip, ev_brk, ev_cnt, ev_var, ev_c, ev_un, un1_ok, ev_bin, bin1_ok, bin2_ok, bin1_ex, bin2_ex, ev_tb, tb1_ok, tb1_ex, ev_tru, tr1_bl, tr1_non, tr1_int, tr1_str, tr1_tup, tr1_frl, tr1_ex, ev_nil, ev_cons, cons1_ok, cons2_ok, cons1_ex, cons2_ex, ev_args, arg1_ok, arg1_ex, ev_and, and1_t, and1_f, and1_ex, ev_or, or1_t, or1_f, or1_ex, ev_not, not1_ok, not1_ex, ev_andV, andV1_t, andV1_f, andV1_ex, ev_orV, orV1_t, orV1_f, orV1_ex, ev_notV, notV1_ok, notV1_ex, ev_ifE, ifE1_t, ifE1_f, ev_if, ifS1_t, ifS1_f, ifS1_ex, ev_set, set1_ok, set1_ex, ev_drop, drop1_ok, drop1_ex, ev_ret, ret1_ok, ret1_ex, ev_retN, ev_par, par1_ok, ev_asg, asg1_ok, asg1_ex, asg2_ok, ev_tgN, ev_tgT, ev_tgCons, tgC_ok, ev_tgNil, ev_semOf, fin1_nx, fin1_rt, fin1_ex, gAdd_int, gSub_int, gMul_int, gFdiv_int, gMod_int, gNeg_int, gLt_int, gLe_int, gGt_int, gGe_int, gEq_int, gNe_int, gIs_bb, gIsN_bb, gIs_non, gIs_tn, gIs_in, gIs_on, gIs_sn, gIsN_non, gIsN_tn, gIsN_in, gIsN_on, gIsN_sn, gIx_tup0, gIx_tup1, gIx_tup2, gIx_tup3, gIx_tup4, gLen_tup, gLen_frl, gLen_str, gInt_int, gInt_bl, gAbs_int, gMax_int, gMin_int, gGcd_int, gLcm_int, gList_tup, gTuple_tup, ev_for, for1_ok, for1_ex, forT_ok, forB_nx, forB_ct, forB_bk, forB_rt, forB_ex, ev_it, it1_tup, it1_frl, it1_str, ev_itA, itA1_ok, ev_sl, sl1_ok, sl2_ok, sl3_ok, ev_noPart, ev_part, part1_ok, gSlc_tup, gSlc_str, ev_sto, sto1_ok, sto2_ok, ev_raise, ev_chain, ch1_ok, ch2_ok, ch3_t, ch3_f, kd_int, kd_bl, kd_str, kd_non, kd_tup, isi_int_int, isi_int_bool, isi_int_str, isi_int_tuple, isi_int_list, isi_int_dict, isi_bl_int, isi_bl_bool, isi_bl_str, isi_bl_tuple, isi_bl_list, isi_bl_dict, isi_str_int, isi_str_bool, isi_str_str, isi_str_tuple, isi_str_list, isi_str_dict, isi_non_int, isi_non_bool, isi_non_str, isi_non_tuple, isi_non_list, isi_non_dict, isi_tup_int, isi_tup_bool, isi_tup_str, isi_tup_tuple, isi_tup_list, isi_tup_dict, isi_frl_int, isi_frl_bool, isi_frl_str, isi_frl_tuple, isi_frl_list, isi_frl_dict, gTup_0, gLst_0, gTup_1, gLst_1, gTup_2, gLst_2, gTup_3, gLst_3, gTup_4, gLst_4, gTup_5, gLst_5, gTup_6, gLst_6, gTup_7, gLst_7, gTup_8, gLst_8, gTup_9, gLst_9, List.map_cons, List.map_nil, List.length_cons, List.length_nil, List.replicate_succ, List.replicate_zero, List.cons_append, List.nil_append, List.set_cons_succ, List.set_cons_zero, List.getElem?_cons_succ, List.getElem?_cons_zero, Nat.reduceAdd, Nat.reduceSub, Nat.zero_add, Nat.add_zero, Bool.not_true, Bool.not_false, decide_true, decide_false, ne_eq, not_false_eq_true, not_true_eq_false, Bool.false_eq_true, Bool.true_eq_false]
theorem frac_ok (F : Fr P Q) : sem_is_fraction [fr P Q] h = .ok (.bl true) h := by
  rw [frac_fr, decide_eq_true F.pos, decide_eq_true F.cop]; rfl
def Fz (P Q : Int) : Prop := Fr P Q ∧ Sm P ∧ Sm Q

variable {x1 x2 y1 y2 u1 u2 v1 v2 c1 c2 : Int}
theorem range_fr {a b c d : Int} (F : Fr a b) (G : Fr c d) (h1 : mulOk a d) (h2 : mulOk c b) : sem_is_range [.tup [fr a b, fr c d]] h = .ok (.bl (decide (¬ (c * b < a * d)))) h := by
  have e := compare_ok h h1 h2
  unfold sem_is_range body_is_range
  simp -implicitDefEqProofs only [gc_same, gc_ex, gc_no, ev_seq, thenS_nx, thenS_rt, thenS_bk, thenS_ct, thenS_ex, ev_skip, ev_brk, ev_cnt, ev_var, ev_c, ev_un, un1_ok, ev_bin, bin1_ok, bin2_ok, bin1_ex, bin2_ex, ev_tb, tb1_ok, tb1_ex, ev_tru, tr1_bl, tr1_non, tr1_int, tr1_str, tr1_tup, tr1_frl, tr1_ex, ev_nil, ev_cons, cons1_ok, cons2_ok, cons1_ex, cons2_ex, ev_args, arg1_ok, arg1_ex, ev_and, and1_t, and1_f, and1_ex, ev_or, or1_t, or1_f, or1_ex, ev_not, not1_ok, not1_ex, ev_andV, andV1_t, andV1_f, andV1_ex, ev_orV, orV1_t, orV1_f, orV1_ex, ev_notV, notV1_ok, notV1_ex, ev_ifE, ifE1_t, ifE1_f, ev_if, ifS1_t, ifS1_f, ifS1_ex, ev_set, set1_ok, set1_ex, ev_drop, drop1_ok, drop1_ex, ev_ret, ret1_ok, ret1_ex, ev_retN, ev_par, par1_ok, ev_asg, asg1_ok, asg1_ex, asg2_ok, ev_tgN, ev_tgT, ev_tgCons, tgC_ok, ev_tgNil, ev_semOf, fin1_nx, fin1_rt, fin1_ex, gAdd_int, gSub_int, gMul_int, gFdiv_int, gMod_int, gNeg_int, gLt_int, gLe_int, gGt_int, gGe_int, gEq_int, gNe_int, gIs_bb, gIsN_bb, gIs_non, gIs_tn, gIs_in, gIs_on, gIs_sn, gIsN_non, gIsN_tn, gIsN_in, gIsN_on, gIsN_sn, gIx_tup0, gIx_tup1, gIx_tup2, gIx_tup3, gIx_tup4, gLen_tup, gLen_frl, gLen_str, gInt_int, gInt_bl, gAbs_int, gMax_int, gMin_int, gGcd_int, gLcm_int, gList_tup, gTuple_tup, ev_for, for1_ok, for1_ex, forT_ok, forB_nx, forB_ct, forB_bk, forB_rt, forB_ex, ev_it, it1_tup, it1_frl, it1_str, ev_itA, itA1_ok, ev_sl, sl1_ok, sl2_ok, sl3_ok, ev_noPart, ev_part, part1_ok, gSlc_tup, gSlc_str, ev_sto, sto1_ok, sto2_ok, ev_raise, ev_chain, ch1_ok, ch2_ok, ch3_t, ch3_f, kd_int, kd_bl, kd_str, kd_non, kd_tup, isi_int_int, isi_int_bool, isi_int_str, isi_int_tuple, isi_int_list, isi_int_dict, isi_bl_int, isi_bl_bool, isi_bl_str, isi_bl_tuple, isi_bl_list, isi_bl_dict, isi_str_int, isi_str_bool, isi_str_str, isi_str_tuple, isi_str_list, isi_str_dict, isi_non_int, isi_non_bool, isi_non_str, isi_non_tuple, isi_non_list, isi_non_dict, isi_tup_int, isi_tup_bool, isi_tup_str, isi_tup_tuple, isi_tup_list, isi_tup_dict, isi_frl_int, isi_frl_bool, isi_frl_str, isi_frl_tuple, isi_frl_list, isi_frl_dict, gTup_0, gLst_0, gTup_1, gLst_1, gTup_2, gLst_2, gTup_3, gLst_3, gTup_4, gLst_4, gTup_5, gLst_5, gTup_6, gLst_6, gTup_7, gLst_7, gTup_8, gLst_8, gTup_9, gLst_9, List.map_cons, List.map_nil, List.length_cons, List.length_nil, List.replicate_succ, List.replicate_zero, List.cons_append, List.nil_append, List.set_cons_succ, List.set_cons_zero, List.getElem?_cons_succ, List.getElem?_cons_zero, Nat.reduceAdd, Nat.reduceSub, Nat.zero_add, Nat.add_zero, Bool.not_true, Bool.not_false, decide_true, decide_false, ne_eq, not_false_eq_true, not_true_eq_false, Bool.false_eq_true, Bool.true_eq_false, frac_ok F, frac_ok G, e, cmp_le, show ((2 : Nat) : Int) = 2 from rfl]
theorem range_one {a b : Int} : sem_is_range [.tup [fr a b]] h = .ok (.bl false) h := by
  unfold sem_is_range body_is_range
  simp -implicitDefEqProofs only [gc_same, gc_ex, gc_no, ev_seq, thenS_nx, thenS_rt, thenS_bk, thenS_ct, thenS_ex, ev_skip, ev_brk, ev_cnt, ev_var, ev_c, ev_un, un1_ok, ev_bin, bin1_ok, bin2_ok, bin1_ex, bin2_ex, ev_tb, tb1_ok, tb1_ex, ev_tru, tr1_bl, tr1_non, tr1_int, tr1_str, tr1_tup, tr1_frl, tr1_ex, ev_nil, ev_cons, cons1_ok, cons2_ok, cons1_ex, cons2_ex, ev_args, arg1_ok, arg1_ex, ev_and, and1_t, and1_f, and1_ex, ev_or, or1_t, or1_f, or1_ex, ev_not, not1_ok, not1_ex, ev_andV, andV1_t, andV1_f, andV1_ex, ev_orV, orV1_t, orV1_f, orV1_ex, ev_notV, notV1_ok, notV1_ex, ev_ifE, ifE1_t, ifE1_f, ev_if, ifS1_t, ifS1_f, ifS1_ex, ev_set, set1_ok, set1_ex, ev_drop, drop1_ok, drop1_ex, ev_ret, ret1_ok, ret1_ex, ev_retN, ev_par, par1_ok, ev_asg, asg1_ok, asg1_ex, asg2_ok, ev_tgN, ev_tgT, ev_tgCons, tgC_ok, ev_tgNil, ev_semOf, fin1_nx, fin1_rt, fin1_ex, gAdd_int, gSub_int, gMul_int, gFdiv_int, gMod_int, gNeg_int, gLt_int, gLe_int, gGt_int, gGe_int, gEq_int, gNe_int, gIs_bb, gIsN_bb, gIs_non, gIs_tn, gIs_in, gIs_on, gIs_sn, gIsN_non, gIsN_tn, gIsN_in, gIsN_on, gIsN_sn, gIx_tup0, gIx_tup1, gIx_tup2, gIx_tup3, gIx_tup4, gLen_tup, gLen_frl, gLen_str, gInt_int, gInt_bl, gAbs_int, gMax_int, gMin_int, gGcd_int, gLcm_int, gList_tup, gTuple_tup, ev_for, for1_ok, for1_ex, forT_ok, forB_nx, forB_ct, forB_bk, forB_rt, forB_ex, ev_it, it1_tup, it1_frl, it1_str, ev_itA, itA1_ok, ev_sl, sl1_ok, sl2_ok, sl3_ok, ev_noPart, ev_part, part1_ok, gSlc_tup, gSlc_str, ev_sto, sto1_ok, sto2_ok, ev_raise, ev_chain, ch1_ok, ch2_ok, ch3_t, ch3_f, kd_int, kd_bl, kd_str, kd_non, kd_tup, isi_int_int, isi_int_bool, isi_int_str, isi_int_tuple, isi_int_list, isi_int_dict, isi_bl_int, isi_bl_bool, isi_bl_str, isi_bl_tuple, isi_bl_list, isi_bl_dict, isi_str_int, isi_str_bool, isi_str_str, isi_str_tuple, isi_str_list, isi_str_dict, isi_non_int, isi_non_bool, isi_non_str, isi_non_tuple, isi_non_list, isi_non_dict, isi_tup_int, isi_tup_bool, isi_tup_str, isi_tup_tuple, isi_tup_list, isi_tup_dict, isi_frl_int, isi_frl_bool, isi_frl_str, isi_frl_tuple, isi_frl_list, isi_frl_dict, gTup_0, gLst_0, gTup_1, gLst_1, gTup_2, gLst_2, gTup_3, gLst_3, gTup_4, gLst_4, gTup_5, gLst_5, gTup_6, gLst_6, gTup_7, gLst_7, gTup_8, gLst_8, gTup_9, gLst_9, List.map_cons, List.map_nil, List.length_cons, List.length_nil, List.replicate_succ, List.replicate_zero, List.cons_append, List.nil_append, List.set_cons_succ, List.set_cons_zero, List.getElem?_cons_succ, List.getElem?_cons_zero, Nat.reduceAdd, Nat.reduceSub, Nat.zero_add, Nat.add_zero, Bool.not_true, Bool.not_false, decide_true, decide_false, ne_eq, not_false_eq_true, not_true_eq_false, Bool.false_eq_true, Bool.true_eq_false, show ((1 : Nat) : Int) = 1 from rfl, show ((1 : Int) = 2) = False from by simp]
theorem range_of_fr {a b : Int} : sem_is_range [fr a b] h = .ok (.bl false) h := by
  unfold sem_is_range body_is_range
  simp -implicitDefEqProofs only [gc_same, gc_ex, gc_no, ev_seq, thenS_nx, thenS_rt, thenS_bk, thenS_ct, thenS_ex, ev_skip, ev_brk, ev_cnt, ev_var, ev_c, ev_un, un1_ok, ev_bin, bin1_ok, bin2_ok, bin1_ex, bin2_ex, ev_tb, tb1_ok, tb1_ex, ev_tru, tr1_bl, tr1_non, tr1_int, tr1_str, tr1_tup, tr1_frl, tr1_ex, ev_nil, ev_cons, cons1_ok, cons2_ok, cons1_ex, cons2_ex, ev_args, arg1_ok, arg1_ex, ev_and, and1_t, and1_f, and1_ex, ev_or, or1_t, or1_f, or1_ex, ev_not, not1_ok, not1_ex, ev_andV, andV1_t, andV1_f, andV1_ex, ev_orV, orV1_t, orV1_f, orV1_ex, ev_notV, notV1_ok, notV1_ex, ev_ifE, ifE1_t, ifE1_f, ev_if, ifS1_t, ifS1_f, ifS1_ex, ev_set, set1_ok, set1_ex, ev_drop, drop1_ok, drop1_ex, ev_ret, ret1_ok, ret1_ex, ev_retN, ev_par, par1_ok, ev_asg, asg1_ok, asg1_ex, asg2_ok, ev_tgN, ev_tgT, ev_tgCons, tgC_ok, ev_tgNil, ev_semOf, fin1_nx, fin1_rt, fin1_ex, gAdd_int, gSub_int, gMul_int, gFdiv_int, gMod_int, gNeg_int, gLt_int, gLe_int, gGt_int, gGe_int, gEq_int, gNe_int, gIs_bb, gIsN_bb, gIs_non, gIs_tn, gIs_in, gIs_on, gIs_sn, gIsN_non, gIsN_tn, gIsN_in, gIsN_on, gIsN_sn, gIx_tup0, gIx_tup1, gIx_tup2, gIx_tup3, gIx_tup4, gLen_tup, gLen_frl, gLen_str, gInt_int, gInt_bl, gAbs_int, gMax_int, gMin_int, gGcd_int, gLcm_int, gList_tup, gTuple_tup, ev_for, for1_ok, for1_ex, forT_ok, forB_nx, forB_ct, forB_bk, forB_rt, forB_ex, ev_it, it1_tup, it1_frl, it1_str, ev_itA, itA1_ok, ev_sl, sl1_ok, sl2_ok, sl3_ok, ev_noPart, ev_part, part1_ok, gSlc_tup, gSlc_str, ev_sto, sto1_ok, sto2_ok, ev_raise, ev_chain, ch1_ok, ch2_ok, ch3_t, ch3_f, kd_int, kd_bl, kd_str, kd_non, kd_tup, isi_int_int, isi_int_bool, isi_int_str, isi_int_tuple, isi_int_list, isi_int_dict, isi_bl_int, isi_bl_bool, isi_bl_str, isi_bl_tuple, isi_bl_list, isi_bl_dict, isi_str_int, isi_str_bool, isi_str_str, isi_str_tuple, isi_str_list, isi_str_dict, isi_non_int, isi_non_bool, isi_non_str, isi_non_tuple, isi_non_list, isi_non_dict, isi_tup_int, isi_tup_bool, isi_tup_str, isi_tup_tuple, isi_tup_list, isi_tup_dict, isi_frl_int, isi_frl_bool, isi_frl_str, isi_frl_tuple, isi_frl_list, isi_frl_dict, gTup_0, gLst_0, gTup_1, gLst_1, gTup_2, gLst_2, gTup_3, gLst_3, gTup_4, gLst_4, gTup_5, gLst_5, gTup_6, gLst_6, gTup_7, gLst_7, gTup_8, gLst_8, gTup_9, gLst_9, List.map_cons, List.map_nil, List.length_cons, List.length_nil, List.replicate_succ, List.replicate_zero, List.cons_append, List.nil_append, List.set_cons_succ, List.set_cons_zero, List.getElem?_cons_succ, List.getElem?_cons_zero, Nat.reduceAdd, Nat.reduceSub, Nat.zero_add, Nat.add_zero, Bool.not_true, Bool.not_false, decide_true, decide_false, ne_eq, not_false_eq_true, not_true_eq_false, Bool.false_eq_true, Bool.true_eq_false, gLen_fr, isi_fr_tuple, gIx_fr0, gIx_fr1, frac_int]
theorem range_lst {j : Nat} {l : List D} (q : h[j]? = some (.lst l)) : sem_is_range [.obj j] h = .ok (.bl false) h := by
  unfold sem_is_range body_is_range
  simp -implicitDefEqProofs only [gc_same, gc_ex, gc_no, ev_seq, thenS_nx, thenS_rt, thenS_bk, thenS_ct, thenS_ex, ev_skip, ev_brk, ev_cnt, ev_var, ev_c, ev_un, un1_ok, ev_bin, bin1_ok, bin2_ok, bin1_ex, bin2_ex, ev_tb, tb1_ok, tb1_ex, ev_tru, tr1_bl, tr1_non, tr1_int, tr1_str, tr1_tup, tr1_frl, tr1_ex, ev_nil, ev_cons, cons1_ok, cons2_ok, cons1_ex, cons2_ex, ev_args, arg1_ok, arg1_ex, ev_and, and1_t, and1_f, and1_ex, ev_or, or1_t, or1_f, or1_ex, ev_not, not1_ok, not1_ex, ev_andV, andV1_t, andV1_f, andV1_ex, ev_orV, orV1_t, orV1_f, orV1_ex, ev_notV, notV1_ok, notV1_ex, ev_ifE, ifE1_t, ifE1_f, ev_if, ifS1_t, ifS1_f, ifS1_ex, ev_set, set1_ok, set1_ex, ev_drop, drop1_ok, drop1_ex, ev_ret, ret1_ok, ret1_ex, ev_retN, ev_par, par1_ok, ev_asg, asg1_ok, asg1_ex, asg2_ok, ev_tgN, ev_tgT, ev_tgCons, tgC_ok, ev_tgNil, ev_semOf, fin1_nx, fin1_rt, fin1_ex, gAdd_int, gSub_int, gMul_int, gFdiv_int, gMod_int, gNeg_int, gLt_int, gLe_int, gGt_int, gGe_int, gEq_int, gNe_int, gIs_bb, gIsN_bb, gIs_non, gIs_tn, gIs_in, gIs_on, gIs_sn, gIsN_non, gIsN_tn, gIsN_in, gIsN_on, gIsN_sn, gIx_tup0, gIx_tup1, gIx_tup2, gIx_tup3, gIx_tup4, gLen_tup, gLen_frl, gLen_str, gInt_int, gInt_bl, gAbs_int, gMax_int, gMin_int, gGcd_int, gLcm_int, gList_tup, gTuple_tup, ev_for, for1_ok, for1_ex, forT_ok, forB_nx, forB_ct, forB_bk, forB_rt, forB_ex, ev_it, it1_tup, it1_frl, it1_str, ev_itA, itA1_ok, ev_sl, sl1_ok, sl2_ok, sl3_ok, ev_noPart, ev_part, part1_ok, gSlc_tup, gSlc_str, ev_sto, sto1_ok, sto2_ok, ev_raise, ev_chain, ch1_ok, ch2_ok, ch3_t, ch3_f, kd_int, kd_bl, kd_str, kd_non, kd_tup, isi_int_int, isi_int_bool, isi_int_str, isi_int_tuple, isi_int_list, isi_int_dict, isi_bl_int, isi_bl_bool, isi_bl_str, isi_bl_tuple, isi_bl_list, isi_bl_dict, isi_str_int, isi_str_bool, isi_str_str, isi_str_tuple, isi_str_list, isi_str_dict, isi_non_int, isi_non_bool, isi_non_str, isi_non_tuple, isi_non_list, isi_non_dict, isi_tup_int, isi_tup_bool, isi_tup_str, isi_tup_tuple, isi_tup_list, isi_tup_dict, isi_frl_int, isi_frl_bool, isi_frl_str, isi_frl_tuple, isi_frl_list, isi_frl_dict, gTup_0, gLst_0, gTup_1, gLst_1, gTup_2, gLst_2, gTup_3, gLst_3, gTup_4, gLst_4, gTup_5, gLst_5, gTup_6, gLst_6, gTup_7, gLst_7, gTup_8, gLst_8, gTup_9, gLst_9, List.map_cons, List.map_nil, List.length_cons, List.length_nil, List.replicate_succ, List.replicate_zero, List.cons_append, List.nil_append, List.set_cons_succ, List.set_cons_zero, List.getElem?_cons_succ, List.getElem?_cons_zero, Nat.reduceAdd, Nat.reduceSub, Nat.zero_add, Nat.add_zero, Bool.not_true, Bool.not_false, decide_true, decide_false, ne_eq, not_false_eq_true, not_true_eq_false, Bool.false_eq_true, Bool.true_eq_false, isi_lst_tuple q]
theorem inr_ok {a b c d e f : Int} (h1 : mulOk c b) (h2 : mulOk a d) (h3 : mulOk a f) (h4 : mulOk e b) : sem_in_range [fr a b, .tup [fr c d, fr e f]] h = .ok (.bl (decide (¬ (a * d < c * b)) && decide (¬ (e * b < a * f)))) h := by
  have e1 := compare_ok h h1 h2
  have e2 := compare_ok h h3 h4
  unfold sem_in_range body_in_range
  by_cases k : a * d < c * b
  · simp -implicitDefEqProofs only [gc_same, gc_ex, gc_no, ev_seq, thenS_nx, thenS_rt, thenS_bk, thenS_ct, thenS_ex, ev_skip, ev_brk, ev_cnt, ev_var, ev_c, ev_un, un1_ok, ev_bin, bin1_ok, bin2_ok, bin1_ex, bin2_ex, ev_tb, tb1_ok, tb1_ex, ev_tru, tr1_bl, tr1_non, tr1_int, tr1_str, tr1_tup, tr1_frl, tr1_ex, ev_nil, ev_cons, cons1_ok, cons2_ok, cons1_ex, cons2_ex, ev_args, arg1_ok, arg1_ex, ev_and, and1_t, and1_f, and1_ex, ev_or, or1_t, or1_f, or1_ex, ev_not, not1_ok, not1_ex, ev_andV, andV1_t, andV1_f, andV1_ex, ev_orV, orV1_t, orV1_f, orV1_ex, ev_notV, notV1_ok, notV1_ex, ev_ifE, ifE1_t, ifE1_f, ev_if, ifS1_t, ifS1_f, ifS1_ex, ev_set, set1_ok, set1_ex, ev_drop, drop1_ok, drop1_ex, ev_ret, ret1_ok, ret1_ex, ev_retN, ev_par, par1_ok, ev_asg, asg1_ok, asg1_ex, asg2_ok, ev_tgN, ev_tgT, ev_tgCons, tgC_ok, ev_tgNil, ev_semOf, fin1_nx, fin1_rt, fin1_ex, gAdd_int, gSub_int, gMul_int, gFdiv_int, gMod_int, gNeg_int, gLt_int, gLe_int, gGt_int, gGe_int, gEq_int, gNe_int, gIs_bb, gIsN_bb, gIs_non, gIs_tn, gIs_in, gIs_on, gIs_sn, gIsN_non, gIsN_tn, gIsN_in, gIsN_on, gIsN_sn, gIx_tup0, gIx_tup1, gIx_tup2, gIx_tup3, gIx_tup4, gLen_tup, gLen_frl, gLen_str, gInt_int, gInt_bl, gAbs_int, gMax_int, gMin_int, gGcd_int, gLcm_int, gList_tup, gTuple_tup, ev_for, for1_ok, for1_ex, forT_ok, forB_nx, forB_ct, forB_bk, forB_rt, forB_ex, ev_it, it1_tup, it1_frl, it1_str, ev_itA, itA1_ok, ev_sl, sl1_ok, sl2_ok, sl3_ok, ev_noPart, ev_part, part1_ok, gSlc_tup, gSlc_str, ev_sto, sto1_ok, sto2_ok, ev_raise, ev_chain, ch1_ok, ch2_ok, ch3_t, ch3_f, kd_int, kd_bl, kd_str, kd_non, kd_tup, isi_int_int, isi_int_bool, isi_int_str, isi_int_tuple, isi_int_list, isi_int_dict, isi_bl_int, isi_bl_bool, isi_bl_str, isi_bl_tuple, isi_bl_list, isi_bl_dict, isi_str_int, isi_str_bool, isi_str_str, isi_str_tuple, isi_str_list, isi_str_dict, isi_non_int, isi_non_bool, isi_non_str, isi_non_tuple, isi_non_list, isi_non_dict, isi_tup_int, isi_tup_bool, isi_tup_str, isi_tup_tuple, isi_tup_list, isi_tup_dict, isi_frl_int, isi_frl_bool, isi_frl_str, isi_frl_tuple, isi_frl_list, isi_frl_dict, gTup_0, gLst_0, gTup_1, gLst_1, gTup_2, gLst_2, gTup_3, gLst_3, gTup_4, gLst_4, gTup_5, gLst_5, gTup_6, gLst_6, gTup_7, gLst_7, gTup_8, gLst_8, gTup_9, gLst_9, List.map_cons, List.map_nil, List.length_cons, List.length_nil, List.replicate_succ, List.replicate_zero, List.cons_append, List.nil_append, List.set_cons_succ, List.set_cons_zero, List.getElem?_cons_succ, List.getElem?_cons_zero, Nat.reduceAdd, Nat.reduceSub, Nat.zero_add, Nat.add_zero, Bool.not_true, Bool.not_false, decide_true, decide_false, ne_eq, not_false_eq_true, not_true_eq_false, Bool.false_eq_true, Bool.true_eq_false, e1, e2, cmp_le, k, Bool.false_and, Classical.not_not]
  · simp -implicitDefEqProofs only [gc_same, gc_ex, gc_no, ev_seq, thenS_nx, thenS_rt, thenS_bk, thenS_ct, thenS_ex, ev_skip, ev_brk, ev_cnt, ev_var, ev_c, ev_un, un1_ok, ev_bin, bin1_ok, bin2_ok, bin1_ex, bin2_ex, ev_tb, tb1_ok, tb1_ex, ev_tru, tr1_bl, tr1_non, tr1_int, tr1_str, tr1_tup, tr1_frl, tr1_ex, ev_nil, ev_cons, cons1_ok, cons2_ok, cons1_ex, cons2_ex, ev_args, arg1_ok, arg1_ex, ev_and, and1_t, and1_f, and1_ex, ev_or, or1_t, or1_f, or1_ex, ev_not, not1_ok, not1_ex, ev_andV, andV1_t, andV1_f, andV1_ex, ev_orV, orV1_t, orV1_f, orV1_ex, ev_notV, notV1_ok, notV1_ex, ev_ifE, ifE1_t, ifE1_f, ev_if, ifS1_t, ifS1_f, ifS1_ex, ev_set, set1_ok, set1_ex, ev_drop, drop1_ok, drop1_ex, ev_ret, ret1_ok, ret1_ex, ev_retN, ev_par, par1_ok, ev_asg, asg1_ok, asg1_ex, asg2_ok, ev_tgN, ev_tgT, ev_tgCons, tgC_ok, ev_tgNil, ev_semOf, fin1_nx, fin1_rt, fin1_ex, gAdd_int, gSub_int, gMul_int, gFdiv_int, gMod_int, gNeg_int, gLt_int, gLe_int, gGt_int, gGe_int, gEq_int, gNe_int, gIs_bb, gIsN_bb, gIs_non, gIs_tn, gIs_in, gIs_on, gIs_sn, gIsN_non, gIsN_tn, gIsN_in, gIsN_on, gIsN_sn, gIx_tup0, gIx_tup1, gIx_tup2, gIx_tup3, gIx_tup4, gLen_tup, gLen_frl, gLen_str, gInt_int, gInt_bl, gAbs_int, gMax_int, gMin_int, gGcd_int, gLcm_int, gList_tup, gTuple_tup, ev_for, for1_ok, for1_ex, forT_ok, forB_nx, forB_ct, forB_bk, forB_rt, forB_ex, ev_it, it1_tup, it1_frl, it1_str, ev_itA, itA1_ok, ev_sl, sl1_ok, sl2_ok, sl3_ok, ev_noPart, ev_part, part1_ok, gSlc_tup, gSlc_str, ev_sto, sto1_ok, sto2_ok, ev_raise, ev_chain, ch1_ok, ch2_ok, ch3_t, ch3_f, kd_int, kd_bl, kd_str, kd_non, kd_tup, isi_int_int, isi_int_bool, isi_int_str, isi_int_tuple, isi_int_list, isi_int_dict, isi_bl_int, isi_bl_bool, isi_bl_str, isi_bl_tuple, isi_bl_list, isi_bl_dict, isi_str_int, isi_str_bool, isi_str_str, isi_str_tuple, isi_str_list, isi_str_dict, isi_non_int, isi_non_bool, isi_non_str, isi_non_tuple, isi_non_list, isi_non_dict, isi_tup_int, isi_tup_bool, isi_tup_str, isi_tup_tuple, isi_tup_list, isi_tup_dict, isi_frl_int, isi_frl_bool, isi_frl_str, isi_frl_tuple, isi_frl_list, isi_frl_dict, gTup_0, gLst_0, gTup_1, gLst_1, gTup_2, gLst_2, gTup_3, gLst_3, gTup_4, gLst_4, gTup_5, gLst_5, gTup_6, gLst_6, gTup_7, gLst_7, gTup_8, gLst_8, gTup_9, gLst_9, List.map_cons, List.map_nil, List.length_cons, List.length_nil, List.replicate_succ, List.replicate_zero, List.cons_append, List.nil_append, List.set_cons_succ, List.set_cons_zero, List.getElem?_cons_succ, List.getElem?_cons_zero, Nat.reduceAdd, Nat.reduceSub, Nat.zero_add, Nat.add_zero, Bool.not_true, Bool.not_false, decide_true, decide_false, ne_eq, not_false_eq_true, not_true_eq_false, Bool.false_eq_true, Bool.true_eq_false, e1, e2, cmp_le, k, Bool.true_and]
theorem meet_no {a b c d e f g i : Int} {lo1 lo2 hi1 hi2 : Int} (l : sem_greater [fr a b, fr e f] h = .ok (fr lo1 lo2) h) (m : sem_lesser [fr c d, fr g i] h = .ok (fr hi1 hi2) h) (h1 : mulOk lo1 hi2) (h2 : mulOk hi1 lo2) (k : hi1 * lo2 < lo1 * hi2) : sem_meet [.tup [fr a b, fr c d], .tup [fr e f, fr g i]] h = .ok .non h := by
  have e := compare_ok h h1 h2
  unfold sem_meet body_meet
  simp -implicitDefEqProofs only [gc_same, gc_ex, gc_no, ev_seq, thenS_nx, thenS_rt, thenS_bk, thenS_ct, thenS_ex, ev_skip, ev_brk, ev_cnt, ev_var, ev_c, ev_un, un1_ok, ev_bin, bin1_ok, bin2_ok, bin1_ex, bin2_ex, ev_tb, tb1_ok, tb1_ex, ev_tru, tr1_bl, tr1_non, tr1_int, tr1_str, tr1_tup, tr1_frl, tr1_ex, ev_nil, ev_cons, cons1_ok, cons2_ok, cons1_ex, cons2_ex, ev_args, arg1_ok, arg1_ex, ev_and, and1_t, and1_f, and1_ex, ev_or, or1_t, or1_f, or1_ex, ev_not, not1_ok, not1_ex, ev_andV, andV1_t, andV1_f, andV1_ex, ev_orV, orV1_t, orV1_f, orV1_ex, ev_notV, notV1_ok, notV1_ex, ev_ifE, ifE1_t, ifE1_f, ev_if, ifS1_t, ifS1_f, ifS1_ex, ev_set, set1_ok, set1_ex, ev_drop, drop1_ok, drop1_ex, ev_ret, ret1_ok, ret1_ex, ev_retN, ev_par, par1_ok, ev_asg, asg1_ok, asg1_ex, asg2_ok, ev_tgN, ev_tgT, ev_tgCons, tgC_ok, ev_tgNil, ev_semOf, fin1_nx, fin1_rt, fin1_ex, gAdd_int, gSub_int, gMul_int, gFdiv_int, gMod_int, gNeg_int, gLt_int, gLe_int, gGt_int, gGe_int, gEq_int, gNe_int, gIs_bb, gIsN_bb, gIs_non, gIs_tn, gIs_in, gIs_on, gIs_sn, gIsN_non, gIsN_tn, gIsN_in, gIsN_on, gIsN_sn, gIx_tup0, gIx_tup1, gIx_tup2, gIx_tup3, gIx_tup4, gLen_tup, gLen_frl, gLen_str, gInt_int, gInt_bl, gAbs_int, gMax_int, gMin_int, gGcd_int, gLcm_int, gList_tup, gTuple_tup, ev_for, for1_ok, for1_ex, forT_ok, forB_nx, forB_ct, forB_bk, forB_rt, forB_ex, ev_it, it1_tup, it1_frl, it1_str, ev_itA, itA1_ok, ev_sl, sl1_ok, sl2_ok, sl3_ok, ev_noPart, ev_part, part1_ok, gSlc_tup, gSlc_str, ev_sto, sto1_ok, sto2_ok, ev_raise, ev_chain, ch1_ok, ch2_ok, ch3_t, ch3_f, kd_int, kd_bl, kd_str, kd_non, kd_tup, isi_int_int, isi_int_bool, isi_int_str, isi_int_tuple, isi_int_list, isi_int_dict, isi_bl_int, isi_bl_bool, isi_bl_str, isi_bl_tuple, isi_bl_list, isi_bl_dict, isi_str_int, isi_str_bool, isi_str_str, isi_str_tuple, isi_str_list, isi_str_dict, isi_non_int, isi_non_bool, isi_non_str, isi_non_tuple, isi_non_list, isi_non_dict, isi_tup_int, isi_tup_bool, isi_tup_str, isi_tup_tuple, isi_tup_list, isi_tup_dict, isi_frl_int, isi_frl_bool, isi_frl_str, isi_frl_tuple, isi_frl_list, isi_frl_dict, gTup_0, gLst_0, gTup_1, gLst_1, gTup_2, gLst_2, gTup_3, gLst_3, gTup_4, gLst_4, gTup_5, gLst_5, gTup_6, gLst_6, gTup_7, gLst_7, gTup_8, gLst_8, gTup_9, gLst_9, List.map_cons, List.map_nil, List.length_cons, List.length_nil, List.replicate_succ, List.replicate_zero, List.cons_append, List.nil_append, List.set_cons_succ, List.set_cons_zero, List.getElem?_cons_succ, List.getElem?_cons_zero, Nat.reduceAdd, Nat.reduceSub, Nat.zero_add, Nat.add_zero, Bool.not_true, Bool.not_false, decide_true, decide_false, ne_eq, not_false_eq_true, not_true_eq_false, Bool.false_eq_true, Bool.true_eq_false, l, m, e, cmp_pos, k]
theorem meet_ok {a b c d e f g i : Int} {lo1 lo2 hi1 hi2 : Int} (l : sem_greater [fr a b, fr e f] h = .ok (fr lo1 lo2) h) (m : sem_lesser [fr c d, fr g i] h = .ok (fr hi1 hi2) h) (h1 : mulOk lo1 hi2) (h2 : mulOk hi1 lo2) (k : ¬ (hi1 * lo2 < lo1 * hi2)) : sem_meet [.tup [fr a b, fr c d], .tup [fr e f, fr g i]] h = .ok (.tup [fr lo1 lo2, fr hi1 hi2]) h := by
  have e := compare_ok h h1 h2
  unfold sem_meet body_meet
  simp -implicitDefEqProofs only [gc_same, gc_ex, gc_no, ev_seq, thenS_nx, thenS_rt, thenS_bk, thenS_ct, thenS_ex, ev_skip, ev_brk, ev_cnt, ev_var, ev_c, ev_un, un1_ok, ev_bin, bin1_ok, bin2_ok, bin1_ex, bin2_ex, ev_tb, tb1_ok, tb1_ex, ev_tru, tr1_bl, tr1_non, tr1_int, tr1_str, tr1_tup, tr1_frl, tr1_ex, ev_nil, ev_cons, cons1_ok, cons2_ok, cons1_ex, cons2_ex, ev_args, arg1_ok, arg1_ex, ev_and, and1_t, and1_f, and1_ex, ev_or, or1_t, or1_f, or1_ex, ev_not, not1_ok, not1_ex, ev_andV, andV1_t, andV1_f, andV1_ex, ev_orV, orV1_t, orV1_f, orV1_ex, ev_notV, notV1_ok, notV1_ex, ev_ifE, ifE1_t, ifE1_f, ev_if, ifS1_t, ifS1_f, ifS1_ex, ev_set, set1_ok, set1_ex, ev_drop, drop1_ok, drop1_ex, ev_ret, ret1_ok, ret1_ex, ev_retN, ev_par, par1_ok, ev_asg, asg1_ok, asg1_ex, asg2_ok, ev_tgN, ev_tgT, ev_tgCons, tgC_ok, ev_tgNil, ev_semOf, fin1_nx, fin1_rt, fin1_ex, gAdd_int, gSub_int, gMul_int, gFdiv_int, gMod_int, gNeg_int, gLt_int, gLe_int, gGt_int, gGe_int, gEq_int, gNe_int, gIs_bb, gIsN_bb, gIs_non, gIs_tn, gIs_in, gIs_on, gIs_sn, gIsN_non, gIsN_tn, gIsN_in, gIsN_on, gIsN_sn, gIx_tup0, gIx_tup1, gIx_tup2, gIx_tup3, gIx_tup4, gLen_tup, gLen_frl, gLen_str, gInt_int, gInt_bl, gAbs_int, gMax_int, gMin_int, gGcd_int, gLcm_int, gList_tup, gTuple_tup, ev_for, for1_ok, for1_ex, forT_ok, forB_nx, forB_ct, forB_bk, forB_rt, forB_ex, ev_it, it1_tup, it1_frl, it1_str, ev_itA, itA1_ok, ev_sl, sl1_ok, sl2_ok, sl3_ok, ev_noPart, ev_part, part1_ok, gSlc_tup, gSlc_str, ev_sto, sto1_ok, sto2_ok, ev_raise, ev_chain, ch1_ok, ch2_ok, ch3_t, ch3_f, kd_int, kd_bl, kd_str, kd_non, kd_tup, isi_int_int, isi_int_bool, isi_int_str, isi_int_tuple, isi_int_list, isi_int_dict, isi_bl_int, isi_bl_bool, isi_bl_str, isi_bl_tuple, isi_bl_list, isi_bl_dict, isi_str_int, isi_str_bool, isi_str_str, isi_str_tuple, isi_str_list, isi_str_dict, isi_non_int, isi_non_bool, isi_non_str, isi_non_tuple, isi_non_list, isi_non_dict, isi_tup_int, isi_tup_bool, isi_tup_str, isi_tup_tuple, isi_tup_list, isi_tup_dict, isi_frl_int, isi_frl_bool, isi_frl_str, isi_frl_tuple, isi_frl_list, isi_frl_dict, gTup_0, gLst_0, gTup_1, gLst_1, gTup_2, gLst_2, gTup_3, gLst_3, gTup_4, gLst_4, gTup_5, gLst_5, gTup_6, gLst_6, gTup_7, gLst_7, gTup_8, gLst_8, gTup_9, gLst_9, List.map_cons, List.map_nil, List.length_cons, List.length_nil, List.replicate_succ, List.replicate_zero, List.cons_append, List.nil_append, List.set_cons_succ, List.set_cons_zero, List.getElem?_cons_succ, List.getElem?_cons_zero, Nat.reduceAdd, Nat.reduceSub, Nat.zero_add, Nat.add_zero, Bool.not_true, Bool.not_false, decide_true, decide_false, ne_eq, not_false_eq_true, not_true_eq_false, Bool.false_eq_true, Bool.true_eq_false, l, m, e, cmp_pos, k]
end
end Mill
end

section
set_option Elab.async false
set_option linter.all false
set_option maxRecDepth 100000
set_option maxHeartbeats 2000000
namespace Mill
open PySem DL
theorem ranges_tail : ∃ tl, body__law_ranges =     (dSeq (dSet 3 (dArgs gTup (dCons (dVar 0) (dCons (dVar 1) dNil))))
    (dSeq (dIf (dTb (dBin gGt (dArgs sem__law_order (dCons (dVar 0) (dCons (dVar 1) dNil))) (dC (.int 0))))
    (dSet 3 (dArgs gTup (dCons (dVar 1) (dCons (dVar 0) dNil))))
    dSkip)
    (dSeq (dSet 4 (dArgs gTup (dCons (dVar 1) (dCons (dVar 2) dNil))))
    (dSeq (dIf (dTb (dBin gGt (dArgs sem__law_order (dCons (dVar 1) (dCons (dVar 2) dNil))) (dC (.int 0))))
    (dSet 4 (dArgs gTup (dCons (dVar 2) (dCons (dVar 1) dNil))))
    dSkip) tl)))) ∧ ∀ (A B : D) (x1 x2 y1 y2 u1 u2 v1 v2 c1 c2 : Int) (h : DHp), Fr x1 x2 → Fr y1 y2 → 0 < u2 → 0 < v2 → 0 < c2 →
      Sm x1 → Sm x2 → Sm y1 → Sm y2 → Sm u1 → Sm u2 → Sm v1 → Sm v2 → Sm c1 → Sm c2 → Sm (y1 + y2) → Sm (y1 + 2 * y2) →
      ¬ (y1 * x2 < x1 * y2) → ¬ (v1 * x2 < x1 * v2) → ¬ (y1 * u2 < u1 * y2) → ¬ (v1 * u2 < u1 * v2) →
      tl [some A, some B, some (fr c1 c2), some (.tup [fr x1 x2, fr y1 y2]), some (.tup [fr u1 u2, fr v1 v2]), none, none, none, none, none] h = .rt (.bl true) (h ++ [.lst [fr x1 x2, fr y1 y2]]) := by
  refine ⟨_, rfl, ?_⟩
  intro A B x1 x2 y1 y2 u1 u2 v1 v2 c1 c2 h X Y u0 v0 c0 s1 s2 s3 s4 s5 s6 s7 s8 s9 s10 s11 s12 n1 n2 n3 n4
  have x0 := X.pos
  have y0 := Y.pos
  have Z : Fr (y1 + 2 * y2) y2 := ⟨y0, by
    have e : Int.gcd (y1 + 2 * y2) y2 = Int.gcd y1 y2 := by simp
    exact e.trans Y.cop⟩
  have o1 := law_order_ok (smOk s1 s10) (smOk s9 s2) h
  have o2 := law_order_ok (smOk s9 s4) (smOk s3 s10) h
  have i1 := inr_ok (h := h) (smOk s1 s10) (smOk s9 s2) (smOk s9 s4) (smOk s3 s10)
  have i2 := inr_ok (h := h) (smOk s1 s2) (smOk s1 s2) (smOk s1 s4) (smOk s3 s2)
  have i3 := inr_ok (h := h) (smOk s1 s4) (smOk s3 s2) (smOk s3 s4) (smOk s3 s4)
  have o3 := law_order_ok (smOk s5 s2) (smOk s1 s6) h
  have o4 := law_order_ok (smOk s7 s4) (smOk s3 s8) h
  have p1 : 0 < y2 * x2 := Int.mul_pos y0 x0
  have p2 : 0 < y2 * y2 := Int.mul_pos y0 y0
  have d1 : (y1 + y2) * x2 = y1 * x2 + y2 * x2 := Int.add_mul _ _ _
  have d2 : (y1 + y2) * y2 = y1 * y2 + y2 * y2 := Int.add_mul _ _ _
  have d3 : (y1 + 2 * y2) * y2 = y1 * y2 + 2 * (y2 * y2) := by rw [Int.add_mul, Int.mul_assoc]
  have d4 : (y1 + 2 * y2) * x2 = y1 * x2 + 2 * (y2 * x2) := by rw [Int.add_mul, Int.mul_assoc]
  have g1 := greater_ok (h := h) s1 s2 s11 s4
  rw [if_pos (by omega)] at g1
  have l1 := lesser_ok (h := h) s3 s4 s12 s4
  rw [if_neg (by omega)] at l1
  have m1 := meet_no (h := h) g1 l1 (smOk s11 s4) (smOk s3 s4) (by omega)
  have g2 := greater_ok (h := h) s11 s4 s1 s2
  rw [if_neg (by omega)] at g2
  have l2 := lesser_ok (h := h) s12 s4 s3 s4
  rw [if_pos (by omega)] at l2
  have m2 := meet_no (h := h) g2 l2 (smOk s11 s4) (smOk s3 s4) (by omega)
  have r1 := range_fr (h := h) X Y (smOk s1 s4) (smOk s3 s2)
  have r2 := range_fr (h := h) Z X (smOk s12 s2) (smOk s1 s4)
  have n5 : (x1 * y2 < (y1 + 2 * y2) * x2) := by omega
  have r3 := range_lst (h := h ++ [.lst [fr x1 x2, fr y1 y2]]) (j := h.length) (l := [fr x1 x2, fr y1 y2]) (by simp)
  have g3 := greater_ok (h := h) s1 s2 s5 s6
  have l3 := lesser_ok (h := h) s3 s4 s7 s8
  have m0 : mulOk 2 y2 := mulL (by decide) (by decide)
  by_cases a1 : x1 * u2 < u1 * x2 <;> by_cases a2 : v1 * y2 < y1 * v2 <;> by_cases a3 : c1 * x2 < x1 * c2 <;> by_cases a4 : y1 * c2 < c1 * y2
  all_goals
    simp only [a1, a2, if_true, if_false] at g3 l3
    have m3 := meet_ok (h := h) g3 l3 (by first | exact smOk s1 s4 | exact smOk s1 s8 | exact smOk s5 s4 | exact smOk s5 s8) (by first | exact smOk s3 s2 | exact smOk s3 s6 | exact smOk s7 s2 | exact smOk s7 s6) (by assumption)
    simp -implicitDefEqProofs only [gc_same, gc_ex, gc_no, ev_seq, thenS_nx, thenS_rt, thenS_bk, thenS_ct, thenS_ex, ev_skip, ev_brk, ev_cnt, ev_var, ev_c, ev_un, un1_ok, ev_bin, bin1_ok, bin2_ok, bin1_ex, bin2_ex, ev_tb, tb1_ok, tb1_ex, ev_tru, tr1_bl, tr1_non, tr1_int, tr1_str, tr1_tup, tr1_frl, tr1_ex, ev_nil, ev_cons, cons1_ok, cons2_ok, cons1_ex, cons2_ex, ev_args, arg1_ok, arg1_ex, ev_and, and1_t, and1_f, and1_ex, ev_or, or1_t, or1_f, or1_ex, ev_not, not1_ok, not1_ex, ev_andV, andV1_t, andV1_f, andV1_ex, ev_orV, orV1_t, orV1_f, orV1_ex, ev_notV, notV1_ok, notV1_ex, ev_ifE, ifE1_t, ifE1_f, ev_if, ifS1_t, ifS1_f, ifS1_ex, ev_set, set1_ok, set1_ex, ev_drop, drop1_ok, drop1_ex, ev_ret, ret1_ok, ret1_ex, ev_retN, ev_par, par1_ok, ev_asg, asg1_ok, asg1_ex, asg2_ok, ev_tgN, ev_tgT, ev_tgCons, tgC_ok, ev_tgNil, ev_semOf, fin1_nx, fin1_rt, fin1_ex, gAdd_int, gSub_int, gMul_int, gFdiv_int, gMod_int, gNeg_int, gLt_int, gLe_int, gGt_int, gGe_int, gEq_int, gNe_int, gIs_bb, gIsN_bb, gIs_non, gIs_tn, gIs_in, gIs_on, gIs_sn, gIsN_non, gIsN_tn, gIsN_in, gIsN_on, gIsN_sn, gIx_tup0, gIx_tup1, gIx_tup2, gIx_tup3, gIx_tup4, gLen_tup, gLen_frl, gLen_str, gInt_int, gInt_bl, gAbs_int, gMax_int, gMin_int, gGcd_int, gLcm_int, gList_tup, gTuple_tup, ev_for, for1_ok, for1_ex, forT_ok, forB_nx, forB_ct, forB_bk, forB_rt, forB_ex, ev_it, it1_tup, it1_frl, it1_str, ev_itA, itA1_ok, ev_sl, sl1_ok, sl2_ok, sl3_ok, ev_noPart, ev_part, part1_ok, gSlc_tup, gSlc_str, ev_sto, sto1_ok, sto2_ok, ev_raise, ev_chain, ch1_ok, ch2_ok, ch3_t, ch3_f, kd_int, kd_bl, kd_str, kd_non, kd_tup, isi_int_int, isi_int_bool, isi_int_str, isi_int_tuple, isi_int_list, isi_int_dict, isi_bl_int, isi_bl_bool, isi_bl_str, isi_bl_tuple, isi_bl_list, isi_bl_dict, isi_str_int, isi_str_bool, isi_str_str, isi_str_tuple, isi_str_list, isi_str_dict, isi_non_int, isi_non_bool, isi_non_str, isi_non_tuple, isi_non_list, isi_non_dict, isi_tup_int, isi_tup_bool, isi_tup_str, isi_tup_tuple, isi_tup_list, isi_tup_dict, isi_frl_int, isi_frl_bool, isi_frl_str, isi_frl_tuple, isi_frl_list, isi_frl_dict, gTup_0, gLst_0, gTup_1, gLst_1, gTup_2, gLst_2, gTup_3, gLst_3, gTup_4, gLst_4, gTup_5, gLst_5, gTup_6, gLst_6, gTup_7, gLst_7, gTup_8, gLst_8, gTup_9, gLst_9, List.map_cons, List.map_nil, List.length_cons, List.length_nil, List.replicate_succ, List.replicate_zero, List.cons_append, List.nil_append, List.set_cons_succ, List.set_cons_zero, List.getElem?_cons_succ, List.getElem?_cons_zero, Nat.reduceAdd, Nat.reduceSub, Nat.zero_add, Nat.add_zero, Bool.not_true, Bool.not_false, decide_true, decide_false, ne_eq, not_false_eq_true, not_true_eq_false, Bool.false_eq_true, Bool.true_eq_false, tup_fr, o1, o2, i1, i2, i3, o3, o4, m1, m2, m3, r1, r2, r3, m0, cmp_pos, cmp_neg, cmp_le, n1, n5, a1, a2, a3, a4, gIx_fr0, gIx_fr1, gNe_pp, gNe_bl, range_one, range_of_fr, Int.lt_irrefl, Bool.and_true, Bool.true_and, Bool.and_false, Bool.false_and, Bool.and_self]
end Mill
end

section
set_option Elab.async false
set_option linter.all false
set_option maxRecDepth 100000
set_option maxHeartbeats 2000000
namespace Mill
open PySem DL
structure Num (P Q : Int) : Prop where
  f : Fr P Q
  p : P.natAbs < 2 ^ 140
  q : Q.natAbs < 2 ^ 140
theorem Num.sp {P Q : Int} (n : Num P Q) : Sm P := bd_mono n.p (by decide)
theorem Num.sq {P Q : Int} (n : Num P Q) : Sm Q := bd_mono n.q (by decide)
theorem Num.s1 {P Q : Int} (n : Num P Q) : Sm (P + Q) := by
  have := n.p; have := n.q; unfold Sm; omega
theorem Num.s2 {P Q : Int} (n : Num P Q) : Sm (P + 2 * Q) := by
  have := n.p; have := n.q; unfold Sm; omega
theorem le_tr {P Q R S U V : Int} (q : 0 < Q) (s : 0 < S) (v : 0 < V) (h1 : ¬ (R * Q < P * S)) (h2 : ¬ (U * S < R * V)) : ¬ (U * Q < P * V) := by
  intro h3
  have a1 : P * S * V ≤ R * Q * V := Int.mul_le_mul_of_nonneg_right (by omega) (by omega)
  have a2 : R * V * Q ≤ U * S * Q := Int.mul_le_mul_of_nonneg_right (by omega) (by omega)
  have a3 : U * Q * S < P * V * S := Int.mul_lt_mul_of_pos_right h3 s
  rw [show P * S * V = P * V * S by simp only [Int.mul_assoc, Int.mul_comm, Int.mul_left_comm]] at a1
  rw [show R * Q * V = R * V * Q by simp only [Int.mul_assoc, Int.mul_comm, Int.mul_left_comm]] at a1
  rw [show U * S * Q = U * Q * S by simp only [Int.mul_assoc, Int.mul_comm, Int.mul_left_comm]] at a2
  omega
theorem ranges_ok {P Q R S U V : Int} (A : Num P Q) (B : Num R S) (C : Num U V) (h : DHp) : sem__law_ranges [fr P Q, fr R S, fr U V] h = .ok (.bl true) h := by
  obtain ⟨tl, e, T⟩ := ranges_tail
  have o1 := law_order_ok (smOk A.sp B.sq) (smOk B.sp A.sq) h
  have o2 := law_order_ok (smOk B.sp C.sq) (smOk C.sp B.sq) h
  have q0 := A.f.pos
  have s0 := B.f.pos
  have v0 := C.f.pos
  have g : ∀ {o : DO}, gc h (.ok (.bl true) (h ++ [o])) = .ok (.bl true) h := gc_push rfl
  unfold sem__law_ranges
  rw [e]
  by_cases h1 : R * Q < P * S <;> by_cases h2 : U * S < R * V
  · have t := T (fr P Q) (fr R S) R S P Q U V R S U V h B.f A.f v0 s0 v0 B.sp B.sq A.sp A.sq C.sp C.sq B.sp B.sq C.sp C.sq A.s1 A.s2 (by omega) (by omega) (by
      have := @le_tr U V R S P Q v0 s0 q0 (by omega) (by omega)
      omega) (by omega)
    simp -implicitDefEqProofs only [gc_same, gc_ex, gc_no, ev_seq, thenS_nx, thenS_rt, thenS_bk, thenS_ct, thenS_ex, ev_skip, ev_brk, ev_cnt, ev_var, ev_c, ev_un, un1_ok, ev_bin, bin1_ok, bin2_ok, bin1_ex, bin2_ex, ev_tb, tb1_ok, tb1_ex, ev_tru, tr1_bl, tr1_non, tr1_int, tr1_str, tr1_tup, tr1_frl, tr1_ex, ev_nil, ev_cons, cons1_ok, cons2_ok, cons1_ex, cons2_ex, ev_args, arg1_ok, arg1_ex, ev_and, and1_t, and1_f, and1_ex, ev_or, or1_t, or1_f, or1_ex, ev_not, not1_ok, not1_ex, ev_andV, andV1_t, andV1_f, andV1_ex, ev_orV, orV1_t, orV1_f, orV1_ex, ev_notV, notV1_ok, notV1_ex, ev_ifE, ifE1_t, ifE1_f, ev_if, ifS1_t, ifS1_f, ifS1_ex, ev_set, set1_ok, set1_ex, ev_drop, drop1_ok, drop1_ex, ev_ret, ret1_ok, ret1_ex, ev_retN, ev_par, par1_ok, ev_asg, asg1_ok, asg1_ex, asg2_ok, ev_tgN, ev_tgT, ev_tgCons, tgC_ok, ev_tgNil, ev_semOf, fin1_nx, fin1_rt, fin1_ex, gAdd_int, gSub_int, gMul_int, gFdiv_int, gMod_int, gNeg_int, gLt_int, gLe_int, gGt_int, gGe_int, gEq_int, gNe_int, gIs_bb, gIsN_bb, gIs_non, gIs_tn, gIs_in, gIs_on, gIs_sn, gIsN_non, gIsN_tn, gIsN_in, gIsN_on, gIsN_sn, gIx_tup0, gIx_tup1, gIx_tup2, gIx_tup3, gIx_tup4, gLen_tup, gLen_frl, gLen_str, gInt_int, gInt_bl, gAbs_int, gMax_int, gMin_int, gGcd_int, gLcm_int, gList_tup, gTuple_tup, ev_for, for1_ok, for1_ex, forT_ok, forB_nx, forB_ct, forB_bk, forB_rt, forB_ex, ev_it, it1_tup, it1_frl, it1_str, ev_itA, itA1_ok, ev_sl, sl1_ok, sl2_ok, sl3_ok, ev_noPart, ev_part, part1_ok, gSlc_tup, gSlc_str, ev_sto, sto1_ok, sto2_ok, ev_raise, ev_chain, ch1_ok, ch2_ok, ch3_t, ch3_f, kd_int, kd_bl, kd_str, kd_non, kd_tup, isi_int_int, isi_int_bool, isi_int_str, isi_int_tuple, isi_int_list, isi_int_dict, isi_bl_int, isi_bl_bool, isi_bl_str, isi_bl_tuple, isi_bl_list, isi_bl_dict, isi_str_int, isi_str_bool, isi_str_str, isi_str_tuple, isi_str_list, isi_str_dict, isi_non_int, isi_non_bool, isi_non_str, isi_non_tuple, isi_non_list, isi_non_dict, isi_tup_int, isi_tup_bool, isi_tup_str, isi_tup_tuple, isi_tup_list, isi_tup_dict, isi_frl_int, isi_frl_bool, isi_frl_str, isi_frl_tuple, isi_frl_list, isi_frl_dict, gTup_0, gLst_0, gTup_1, gLst_1, gTup_2, gLst_2, gTup_3, gLst_3, gTup_4, gLst_4, gTup_5, gLst_5, gTup_6, gLst_6, gTup_7, gLst_7, gTup_8, gLst_8, gTup_9, gLst_9, List.map_cons, List.map_nil, List.length_cons, List.length_nil, List.replicate_succ, List.replicate_zero, List.cons_append, List.nil_append, List.set_cons_succ, List.set_cons_zero, List.getElem?_cons_succ, List.getElem?_cons_zero, Nat.reduceAdd, Nat.reduceSub, Nat.zero_add, Nat.add_zero, Bool.not_true, Bool.not_false, decide_true, decide_false, ne_eq, not_false_eq_true, not_true_eq_false, Bool.false_eq_true, Bool.true_eq_false, tup_fr, o1, o2, cmp_pos, h1, h2, t, g]
  · have t := T (fr P Q) (fr R S) R S P Q R S U V U V h B.f A.f s0 v0 v0 B.sp B.sq A.sp A.sq B.sp B.sq C.sp C.sq C.sp C.sq A.s1 A.s2 (by omega) (by omega) (by omega) (by omega)
    simp -implicitDefEqProofs only [gc_same, gc_ex, gc_no, ev_seq, thenS_nx, thenS_rt, thenS_bk, thenS_ct, thenS_ex, ev_skip, ev_brk, ev_cnt, ev_var, ev_c, ev_un, un1_ok, ev_bin, bin1_ok, bin2_ok, bin1_ex, bin2_ex, ev_tb, tb1_ok, tb1_ex, ev_tru, tr1_bl, tr1_non, tr1_int, tr1_str, tr1_tup, tr1_frl, tr1_ex, ev_nil, ev_cons, cons1_ok, cons2_ok, cons1_ex, cons2_ex, ev_args, arg1_ok, arg1_ex, ev_and, and1_t, and1_f, and1_ex, ev_or, or1_t, or1_f, or1_ex, ev_not, not1_ok, not1_ex, ev_andV, andV1_t, andV1_f, andV1_ex, ev_orV, orV1_t, orV1_f, orV1_ex, ev_notV, notV1_ok, notV1_ex, ev_ifE, ifE1_t, ifE1_f, ev_if, ifS1_t, ifS1_f, ifS1_ex, ev_set, set1_ok, set1_ex, ev_drop, drop1_ok, drop1_ex, ev_ret, ret1_ok, ret1_ex, ev_retN, ev_par, par1_ok, ev_asg, asg1_ok, asg1_ex, asg2_ok, ev_tgN, ev_tgT, ev_tgCons, tgC_ok, ev_tgNil, ev_semOf, fin1_nx, fin1_rt, fin1_ex, gAdd_int, gSub_int, gMul_int, gFdiv_int, gMod_int, gNeg_int, gLt_int, gLe_int, gGt_int, gGe_int, gEq_int, gNe_int, gIs_bb, gIsN_bb, gIs_non, gIs_tn, gIs_in, gIs_on, gIs_sn, gIsN_non, gIsN_tn, gIsN_in, gIsN_on, gIsN_sn, gIx_tup0, gIx_tup1, gIx_tup2, gIx_tup3, gIx_tup4, gLen_tup, gLen_frl, gLen_str, gInt_int, gInt_bl, gAbs_int, gMax_int, gMin_int, gGcd_int, gLcm_int, gList_tup, gTuple_tup, ev_for, for1_ok, for1_ex, forT_ok, forB_nx, forB_ct, forB_bk, forB_rt, forB_ex, ev_it, it1_tup, it1_frl, it1_str, ev_itA, itA1_ok, ev_sl, sl1_ok, sl2_ok, sl3_ok, ev_noPart, ev_part, part1_ok, gSlc_tup, gSlc_str, ev_sto, sto1_ok, sto2_ok, ev_raise, ev_chain, ch1_ok, ch2_ok, ch3_t, ch3_f, kd_int, kd_bl, kd_str, kd_non, kd_tup, isi_int_int, isi_int_bool, isi_int_str, isi_int_tuple, isi_int_list, isi_int_dict, isi_bl_int, isi_bl_bool, isi_bl_str, isi_bl_tuple, isi_bl_list, isi_bl_dict, isi_str_int, isi_str_bool, isi_str_str, isi_str_tuple, isi_str_list, isi_str_dict, isi_non_int, isi_non_bool, isi_non_str, isi_non_tuple, isi_non_list, isi_non_dict, isi_tup_int, isi_tup_bool, isi_tup_str, isi_tup_tuple, isi_tup_list, isi_tup_dict, isi_frl_int, isi_frl_bool, isi_frl_str, isi_frl_tuple, isi_frl_list, isi_frl_dict, gTup_0, gLst_0, gTup_1, gLst_1, gTup_2, gLst_2, gTup_3, gLst_3, gTup_4, gLst_4, gTup_5, gLst_5, gTup_6, gLst_6, gTup_7, gLst_7, gTup_8, gLst_8, gTup_9, gLst_9, List.map_cons, List.map_nil, List.length_cons, List.length_nil, List.replicate_succ, List.replicate_zero, List.cons_append, List.nil_append, List.set_cons_succ, List.set_cons_zero, List.getElem?_cons_succ, List.getElem?_cons_zero, Nat.reduceAdd, Nat.reduceSub, Nat.zero_add, Nat.add_zero, Bool.not_true, Bool.not_false, decide_true, decide_false, ne_eq, not_false_eq_true, not_true_eq_false, Bool.false_eq_true, Bool.true_eq_false, tup_fr, o1, o2, cmp_pos, h1, h2, t, g]
  · have t := T (fr P Q) (fr R S) P Q R S U V R S U V h A.f B.f v0 s0 v0 A.sp A.sq B.sp B.sq C.sp C.sq B.sp B.sq C.sp C.sq B.s1 B.s2 (by omega) (by omega) (by omega) (by omega)
    simp -implicitDefEqProofs only [gc_same, gc_ex, gc_no, ev_seq, thenS_nx, thenS_rt, thenS_bk, thenS_ct, thenS_ex, ev_skip, ev_brk, ev_cnt, ev_var, ev_c, ev_un, un1_ok, ev_bin, bin1_ok, bin2_ok, bin1_ex, bin2_ex, ev_tb, tb1_ok, tb1_ex, ev_tru, tr1_bl, tr1_non, tr1_int, tr1_str, tr1_tup, tr1_frl, tr1_ex, ev_nil, ev_cons, cons1_ok, cons2_ok, cons1_ex, cons2_ex, ev_args, arg1_ok, arg1_ex, ev_and, and1_t, and1_f, and1_ex, ev_or, or1_t, or1_f, or1_ex, ev_not, not1_ok, not1_ex, ev_andV, andV1_t, andV1_f, andV1_ex, ev_orV, orV1_t, orV1_f, orV1_ex, ev_notV, notV1_ok, notV1_ex, ev_ifE, ifE1_t, ifE1_f, ev_if, ifS1_t, ifS1_f, ifS1_ex, ev_set, set1_ok, set1_ex, ev_drop, drop1_ok, drop1_ex, ev_ret, ret1_ok, ret1_ex, ev_retN, ev_par, par1_ok, ev_asg, asg1_ok, asg1_ex, asg2_ok, ev_tgN, ev_tgT, ev_tgCons, tgC_ok, ev_tgNil, ev_semOf, fin1_nx, fin1_rt, fin1_ex, gAdd_int, gSub_int, gMul_int, gFdiv_int, gMod_int, gNeg_int, gLt_int, gLe_int, gGt_int, gGe_int, gEq_int, gNe_int, gIs_bb, gIsN_bb, gIs_non, gIs_tn, gIs_in, gIs_on, gIs_sn, gIsN_non, gIsN_tn, gIsN_in, gIsN_on, gIsN_sn, gIx_tup0, gIx_tup1, gIx_tup2, gIx_tup3, gIx_tup4, gLen_tup, gLen_frl, gLen_str, gInt_int, gInt_bl, gAbs_int, gMax_int, gMin_int, gGcd_int, gLcm_int, gList_tup, gTuple_tup, ev_for, for1_ok, for1_ex, forT_ok, forB_nx, forB_ct, forB_bk, forB_rt, forB_ex, ev_it, it1_tup, it1_frl, it1_str, ev_itA, itA1_ok, ev_sl, sl1_ok, sl2_ok, sl3_ok, ev_noPart, ev_part, part1_ok, gSlc_tup, gSlc_str, ev_sto, sto1_ok, sto2_ok, ev_raise, ev_chain, ch1_ok, ch2_ok, ch3_t, ch3_f, kd_int, kd_bl, kd_str, kd_non, kd_tup, isi_int_int, isi_int_bool, isi_int_str, isi_int_tuple, isi_int_list, isi_int_dict, isi_bl_int, isi_bl_bool, isi_bl_str, isi_bl_tuple, isi_bl_list, isi_bl_dict, isi_str_int, isi_str_bool, isi_str_str, isi_str_tuple, isi_str_list, isi_str_dict, isi_non_int, isi_non_bool, isi_non_str, isi_non_tuple, isi_non_list, isi_non_dict, isi_tup_int, isi_tup_bool, isi_tup_str, isi_tup_tuple, isi_tup_list, isi_tup_dict, isi_frl_int, isi_frl_bool, isi_frl_str, isi_frl_tuple, isi_frl_list, isi_frl_dict, gTup_0, gLst_0, gTup_1, gLst_1, gTup_2, gLst_2, gTup_3, gLst_3, gTup_4, gLst_4, gTup_5, gLst_5, gTup_6, gLst_6, gTup_7, gLst_7, gTup_8, gLst_8, gTup_9, gLst_9, List.map_cons, List.map_nil, List.length_cons, List.length_nil, List.replicate_succ, List.replicate_zero, List.cons_append, List.nil_append, List.set_cons_succ, List.set_cons_zero, List.getElem?_cons_succ, List.getElem?_cons_zero, Nat.reduceAdd, Nat.reduceSub, Nat.zero_add, Nat.add_zero, Bool.not_true, Bool.not_false, decide_true, decide_false, ne_eq, not_false_eq_true, not_true_eq_false, Bool.false_eq_true, Bool.true_eq_false, tup_fr, o1, o2, cmp_pos, h1, h2, t, g]
  · have t := T (fr P Q) (fr R S) P Q R S R S U V U V h A.f B.f s0 v0 v0 A.sp A.sq B.sp B.sq B.sp B.sq C.sp C.sq C.sp C.sq B.s1 B.s2 (by omega) (le_tr q0 s0 v0 h1 h2) (by omega) (by omega)
    simp -implicitDefEqProofs only [gc_same, gc_ex, gc_no, ev_seq, thenS_nx, thenS_rt, thenS_bk, thenS_ct, thenS_ex, ev_skip, ev_brk, ev_cnt, ev_var, ev_c, ev_un, un1_ok, ev_bin, bin1_ok, bin2_ok, bin1_ex, bin2_ex, ev_tb, tb1_ok, tb1_ex, ev_tru, tr1_bl, tr1_non, tr1_int, tr1_str, tr1_tup, tr1_frl, tr1_ex, ev_nil, ev_cons, cons1_ok, cons2_ok, cons1_ex, cons2_ex, ev_args, arg1_ok, arg1_ex, ev_and, and1_t, and1_f, and1_ex, ev_or, or1_t, or1_f, or1_ex, ev_not, not1_ok, not1_ex, ev_andV, andV1_t, andV1_f, andV1_ex, ev_orV, orV1_t, orV1_f, orV1_ex, ev_notV, notV1_ok, notV1_ex, ev_ifE, ifE1_t, ifE1_f, ev_if, ifS1_t, ifS1_f, ifS1_ex, ev_set, set1_ok, set1_ex, ev_drop, drop1_ok, drop1_ex, ev_ret, ret1_ok, ret1_ex, ev_retN, ev_par, par1_ok, ev_asg, asg1_ok, asg1_ex, asg2_ok, ev_tgN, ev_tgT, ev_tgCons, tgC_ok, ev_tgNil, ev_semOf, fin1_nx, fin1_rt, fin1_ex, gAdd_int, gSub_int, gMul_int, gFdiv_int, gMod_int, gNeg_int, gLt_int, gLe_int, gGt_int, gGe_int, gEq_int, gNe_int, gIs_bb, gIsN_bb, gIs_non, gIs_tn, gIs_in, gIs_on, gIs_sn, gIsN_non, gIsN_tn, gIsN_in, gIsN_on, gIsN_sn, gIx_tup0, gIx_tup1, gIx_tup2, gIx_tup3, gIx_tup4, gLen_tup, gLen_frl, gLen_str, gInt_int, gInt_bl, gAbs_int, gMax_int, gMin_int, gGcd_int, gLcm_int, gList_tup, gTuple_tup, ev_for, for1_ok, for1_ex, forT_ok, forB_nx, forB_ct, forB_bk, forB_rt, forB_ex, ev_it, it1_tup, it1_frl, it1_str, ev_itA, itA1_ok, ev_sl, sl1_ok, sl2_ok, sl3_ok, ev_noPart, ev_part, part1_ok, gSlc_tup, gSlc_str, ev_sto, sto1_ok, sto2_ok, ev_raise, ev_chain, ch1_ok, ch2_ok, ch3_t, ch3_f, kd_int, kd_bl, kd_str, kd_non, kd_tup, isi_int_int, isi_int_bool, isi_int_str, isi_int_tuple, isi_int_list, isi_int_dict, isi_bl_int, isi_bl_bool, isi_bl_str, isi_bl_tuple, isi_bl_list, isi_bl_dict, isi_str_int, isi_str_bool, isi_str_str, isi_str_tuple, isi_str_list, isi_str_dict, isi_non_int, isi_non_bool, isi_non_str, isi_non_tuple, isi_non_list, isi_non_dict, isi_tup_int, isi_tup_bool, isi_tup_str, isi_tup_tuple, isi_tup_list, isi_tup_dict, isi_frl_int, isi_frl_bool, isi_frl_str, isi_frl_tuple, isi_frl_list, isi_frl_dict, gTup_0, gLst_0, gTup_1, gLst_1, gTup_2, gLst_2, gTup_3, gLst_3, gTup_4, gLst_4, gTup_5, gLst_5, gTup_6, gLst_6, gTup_7, gLst_7, gTup_8, gLst_8, gTup_9, gLst_9, List.map_cons, List.map_nil, List.length_cons, List.length_nil, List.replicate_succ, List.replicate_zero, List.cons_append, List.nil_append, List.set_cons_succ, List.set_cons_zero, List.getElem?_cons_succ, List.getElem?_cons_zero, Nat.reduceAdd, Nat.reduceSub, Nat.zero_add, Nat.add_zero, Bool.not_true, Bool.not_false, decide_true, decide_false, ne_eq, not_false_eq_true, not_true_eq_false, Bool.false_eq_true, Bool.true_eq_false, tup_fr, o1, o2, cmp_pos, h1, h2, t, g]
/-! the loops of the near misses -/
def lastW : List D → Option D → Option D
  | [], w => w
  | d :: L, _ => lastW L (some d)
theorem near_frac {A B : D} {h : DHp} {chk : DHp → Prop} (c : chk h) : ∀ (L : List D) (w : Option D), (∀ d, d ∈ L → sem_is_fraction [d] h = .ok (.bl false) h) →
    dForL chk (tgN 2) (dIf (dTb (dBin gIsN (dArgs sem_is_fraction (dCons (dVar 2) dNil)) (dC (.bl false)))) (dRet (dC (.bl false))) dSkip) L [some A, some B, w] h = .nx [some A, some B, lastW L w] h
  | [], w, _ => dForL_nil c
  | d :: L, w, H => by
    have q := near_frac (A := A) (B := B) c L (some d) fun x m => H x (List.mem_cons_of_mem _ m)
    show _ = SR.nx [some A, some B, lastW L (some d)] h
    have e := H d List.mem_cons_self
    rw [dForL_cons c]
    simp -implicitDefEqProofs only [gc_same, gc_ex, gc_no, ev_seq, thenS_nx, thenS_rt, thenS_bk, thenS_ct, thenS_ex, ev_skip, ev_brk, ev_cnt, ev_var, ev_c, ev_un, un1_ok, ev_bin, bin1_ok, bin2_ok, bin1_ex, bin2_ex, ev_tb, tb1_ok, tb1_ex, ev_tru, tr1_bl, tr1_non, tr1_int, tr1_str, tr1_tup, tr1_frl, tr1_ex, ev_nil, ev_cons, cons1_ok, cons2_ok, cons1_ex, cons2_ex, ev_args, arg1_ok, arg1_ex, ev_and, and1_t, and1_f, and1_ex, ev_or, or1_t, or1_f, or1_ex, ev_not, not1_ok, not1_ex, ev_andV, andV1_t, andV1_f, andV1_ex, ev_orV, orV1_t, orV1_f, orV1_ex, ev_notV, notV1_ok, notV1_ex, ev_ifE, ifE1_t, ifE1_f, ev_if, ifS1_t, ifS1_f, ifS1_ex, ev_set, set1_ok, set1_ex, ev_drop, drop1_ok, drop1_ex, ev_ret, ret1_ok, ret1_ex, ev_retN, ev_par, par1_ok, ev_asg, asg1_ok, asg1_ex, asg2_ok, ev_tgN, ev_tgT, ev_tgCons, tgC_ok, ev_tgNil, ev_semOf, fin1_nx, fin1_rt, fin1_ex, gAdd_int, gSub_int, gMul_int, gFdiv_int, gMod_int, gNeg_int, gLt_int, gLe_int, gGt_int, gGe_int, gEq_int, gNe_int, gIs_bb, gIsN_bb, gIs_non, gIs_tn, gIs_in, gIs_on, gIs_sn, gIsN_non, gIsN_tn, gIsN_in, gIsN_on, gIsN_sn, gIx_tup0, gIx_tup1, gIx_tup2, gIx_tup3, gIx_tup4, gLen_tup, gLen_frl, gLen_str, gInt_int, gInt_bl, gAbs_int, gMax_int, gMin_int, gGcd_int, gLcm_int, gList_tup, gTuple_tup, ev_for, for1_ok, for1_ex, forT_ok, forB_nx, forB_ct, forB_bk, forB_rt, forB_ex, ev_it, it1_tup, it1_frl, it1_str, ev_itA, itA1_ok, ev_sl, sl1_ok, sl2_ok, sl3_ok, ev_noPart, ev_part, part1_ok, gSlc_tup, gSlc_str, ev_sto, sto1_ok, sto2_ok, ev_raise, ev_chain, ch1_ok, ch2_ok, ch3_t, ch3_f, kd_int, kd_bl, kd_str, kd_non, kd_tup, isi_int_int, isi_int_bool, isi_int_str, isi_int_tuple, isi_int_list, isi_int_dict, isi_bl_int, isi_bl_bool, isi_bl_str, isi_bl_tuple, isi_bl_list, isi_bl_dict, isi_str_int, isi_str_bool, isi_str_str, isi_str_tuple, isi_str_list, isi_str_dict, isi_non_int, isi_non_bool, isi_non_str, isi_non_tuple, isi_non_list, isi_non_dict, isi_tup_int, isi_tup_bool, isi_tup_str, isi_tup_tuple, isi_tup_list, isi_tup_dict, isi_frl_int, isi_frl_bool, isi_frl_str, isi_frl_tuple, isi_frl_list, isi_frl_dict, gTup_0, gLst_0, gTup_1, gLst_1, gTup_2, gLst_2, gTup_3, gLst_3, gTup_4, gLst_4, gTup_5, gLst_5, gTup_6, gLst_6, gTup_7, gLst_7, gTup_8, gLst_8, gTup_9, gLst_9, List.map_cons, List.map_nil, List.length_cons, List.length_nil, List.replicate_succ, List.replicate_zero, List.cons_append, List.nil_append, List.set_cons_succ, List.set_cons_zero, List.getElem?_cons_succ, List.getElem?_cons_zero, Nat.reduceAdd, Nat.reduceSub, Nat.zero_add, Nat.add_zero, Bool.not_true, Bool.not_false, decide_true, decide_false, ne_eq, not_false_eq_true, not_true_eq_false, Bool.false_eq_true, Bool.true_eq_false, e, q]
theorem near_whole {A B : D} {h : DHp} {chk : DHp → Prop} (c : chk h) : ∀ (L : List D) (w : Option D), (∀ d, d ∈ L → sem_is_whole [d] h = .ok (.bl false) h) →
    dForL chk (tgN 2) (dIf (dTb (dBin gIsN (dArgs sem_is_whole (dCons (dVar 2) dNil)) (dC (.bl false)))) (dRet (dC (.bl false))) dSkip) L [some A, some B, w] h = .nx [some A, some B, lastW L w] h
  | [], w, _ => dForL_nil c
  | d :: L, w, H => by
    have q := near_whole (A := A) (B := B) c L (some d) fun x m => H x (List.mem_cons_of_mem _ m)
    show _ = SR.nx [some A, some B, lastW L (some d)] h
    have e := H d List.mem_cons_self
    rw [dForL_cons c]
    simp -implicitDefEqProofs only [gc_same, gc_ex, gc_no, ev_seq, thenS_nx, thenS_rt, thenS_bk, thenS_ct, thenS_ex, ev_skip, ev_brk, ev_cnt, ev_var, ev_c, ev_un, un1_ok, ev_bin, bin1_ok, bin2_ok, bin1_ex, bin2_ex, ev_tb, tb1_ok, tb1_ex, ev_tru, tr1_bl, tr1_non, tr1_int, tr1_str, tr1_tup, tr1_frl, tr1_ex, ev_nil, ev_cons, cons1_ok, cons2_ok, cons1_ex, cons2_ex, ev_args, arg1_ok, arg1_ex, ev_and, and1_t, and1_f, and1_ex, ev_or, or1_t, or1_f, or1_ex, ev_not, not1_ok, not1_ex, ev_andV, andV1_t, andV1_f, andV1_ex, ev_orV, orV1_t, orV1_f, orV1_ex, ev_notV, notV1_ok, notV1_ex, ev_ifE, ifE1_t, ifE1_f, ev_if, ifS1_t, ifS1_f, ifS1_ex, ev_set, set1_ok, set1_ex, ev_drop, drop1_ok, drop1_ex, ev_ret, ret1_ok, ret1_ex, ev_retN, ev_par, par1_ok, ev_asg, asg1_ok, asg1_ex, asg2_ok, ev_tgN, ev_tgT, ev_tgCons, tgC_ok, ev_tgNil, ev_semOf, fin1_nx, fin1_rt, fin1_ex, gAdd_int, gSub_int, gMul_int, gFdiv_int, gMod_int, gNeg_int, gLt_int, gLe_int, gGt_int, gGe_int, gEq_int, gNe_int, gIs_bb, gIsN_bb, gIs_non, gIs_tn, gIs_in, gIs_on, gIs_sn, gIsN_non, gIsN_tn, gIsN_in, gIsN_on, gIsN_sn, gIx_tup0, gIx_tup1, gIx_tup2, gIx_tup3, gIx_tup4, gLen_tup, gLen_frl, gLen_str, gInt_int, gInt_bl, gAbs_int, gMax_int, gMin_int, gGcd_int, gLcm_int, gList_tup, gTuple_tup, ev_for, for1_ok, for1_ex, forT_ok, forB_nx, forB_ct, forB_bk, forB_rt, forB_ex, ev_it, it1_tup, it1_frl, it1_str, ev_itA, itA1_ok, ev_sl, sl1_ok, sl2_ok, sl3_ok, ev_noPart, ev_part, part1_ok, gSlc_tup, gSlc_str, ev_sto, sto1_ok, sto2_ok, ev_raise, ev_chain, ch1_ok, ch2_ok, ch3_t, ch3_f, kd_int, kd_bl, kd_str, kd_non, kd_tup, isi_int_int, isi_int_bool, isi_int_str, isi_int_tuple, isi_int_list, isi_int_dict, isi_bl_int, isi_bl_bool, isi_bl_str, isi_bl_tuple, isi_bl_list, isi_bl_dict, isi_str_int, isi_str_bool, isi_str_str, isi_str_tuple, isi_str_list, isi_str_dict, isi_non_int, isi_non_bool, isi_non_str, isi_non_tuple, isi_non_list, isi_non_dict, isi_tup_int, isi_tup_bool, isi_tup_str, isi_tup_tuple, isi_tup_list, isi_tup_dict, isi_frl_int, isi_frl_bool, isi_frl_str, isi_frl_tuple, isi_frl_list, isi_frl_dict, gTup_0, gLst_0, gTup_1, gLst_1, gTup_2, gLst_2, gTup_3, gLst_3, gTup_4, gLst_4, gTup_5, gLst_5, gTup_6, gLst_6, gTup_7, gLst_7, gTup_8, gLst_8, gTup_9, gLst_9, List.map_cons, List.map_nil, List.length_cons, List.length_nil, List.replicate_succ, List.replicate_zero, List.cons_append, List.nil_append, List.set_cons_succ, List.set_cons_zero, List.getElem?_cons_succ, List.getElem?_cons_zero, Nat.reduceAdd, Nat.reduceSub, Nat.zero_add, Nat.add_zero, Bool.not_true, Bool.not_false, decide_true, decide_false, ne_eq, not_false_eq_true, not_true_eq_false, Bool.false_eq_true, Bool.true_eq_false, e, q]
theorem whole_bl (b : Bool) (h : DHp) : sem_is_whole [.bl b] h = .ok (.bl false) h := by
  unfold sem_is_whole body_is_whole
  simp -implicitDefEqProofs only [gc_same, gc_ex, gc_no, ev_seq, thenS_nx, thenS_rt, thenS_bk, thenS_ct, thenS_ex, ev_skip, ev_brk, ev_cnt, ev_var, ev_c, ev_un, un1_ok, ev_bin, bin1_ok, bin2_ok, bin1_ex, bin2_ex, ev_tb, tb1_ok, tb1_ex, ev_tru, tr1_bl, tr1_non, tr1_int, tr1_str, tr1_tup, tr1_frl, tr1_ex, ev_nil, ev_cons, cons1_ok, cons2_ok, cons1_ex, cons2_ex, ev_args, arg1_ok, arg1_ex, ev_and, and1_t, and1_f, and1_ex, ev_or, or1_t, or1_f, or1_ex, ev_not, not1_ok, not1_ex, ev_andV, andV1_t, andV1_f, andV1_ex, ev_orV, orV1_t, orV1_f, orV1_ex, ev_notV, notV1_ok, notV1_ex, ev_ifE, ifE1_t, ifE1_f, ev_if, ifS1_t, ifS1_f, ifS1_ex, ev_set, set1_ok, set1_ex, ev_drop, drop1_ok, drop1_ex, ev_ret, ret1_ok, ret1_ex, ev_retN, ev_par, par1_ok, ev_asg, asg1_ok, asg1_ex, asg2_ok, ev_tgN, ev_tgT, ev_tgCons, tgC_ok, ev_tgNil, ev_semOf, fin1_nx, fin1_rt, fin1_ex, gAdd_int, gSub_int, gMul_int, gFdiv_int, gMod_int, gNeg_int, gLt_int, gLe_int, gGt_int, gGe_int, gEq_int, gNe_int, gIs_bb, gIsN_bb, gIs_non, gIs_tn, gIs_in, gIs_on, gIs_sn, gIsN_non, gIsN_tn, gIsN_in, gIsN_on, gIsN_sn, gIx_tup0, gIx_tup1, gIx_tup2, gIx_tup3, gIx_tup4, gLen_tup, gLen_frl, gLen_str, gInt_int, gInt_bl, gAbs_int, gMax_int, gMin_int, gGcd_int, gLcm_int, gList_tup, gTuple_tup, ev_for, for1_ok, for1_ex, forT_ok, forB_nx, forB_ct, forB_bk, forB_rt, forB_ex, ev_it, it1_tup, it1_frl, it1_str, ev_itA, itA1_ok, ev_sl, sl1_ok, sl2_ok, sl3_ok, ev_noPart, ev_part, part1_ok, gSlc_tup, gSlc_str, ev_sto, sto1_ok, sto2_ok, ev_raise, ev_chain, ch1_ok, ch2_ok, ch3_t, ch3_f, kd_int, kd_bl, kd_str, kd_non, kd_tup, isi_int_int, isi_int_bool, isi_int_str, isi_int_tuple, isi_int_list, isi_int_dict, isi_bl_int, isi_bl_bool, isi_bl_str, isi_bl_tuple, isi_bl_list, isi_bl_dict, isi_str_int, isi_str_bool, isi_str_str, isi_str_tuple, isi_str_list, isi_str_dict, isi_non_int, isi_non_bool, isi_non_str, isi_non_tuple, isi_non_list, isi_non_dict, isi_tup_int, isi_tup_bool, isi_tup_str, isi_tup_tuple, isi_tup_list, isi_tup_dict, isi_frl_int, isi_frl_bool, isi_frl_str, isi_frl_tuple, isi_frl_list, isi_frl_dict, gTup_0, gLst_0, gTup_1, gLst_1, gTup_2, gLst_2, gTup_3, gLst_3, gTup_4, gLst_4, gTup_5, gLst_5, gTup_6, gLst_6, gTup_7, gLst_7, gTup_8, gLst_8, gTup_9, gLst_9, List.map_cons, List.map_nil, List.length_cons, List.length_nil, List.replicate_succ, List.replicate_zero, List.cons_append, List.nil_append, List.set_cons_succ, List.set_cons_zero, List.getElem?_cons_succ, List.getElem?_cons_zero, Nat.reduceAdd, Nat.reduceSub, Nat.zero_add, Nat.add_zero, Bool.not_true, Bool.not_false, decide_true, decide_false, ne_eq, not_false_eq_true, not_true_eq_false, Bool.false_eq_true, Bool.true_eq_false]
theorem whole_str (z : Str) (h : DHp) : sem_is_whole [.str z] h = .ok (.bl false) h := by
  unfold sem_is_whole body_is_whole
  simp -implicitDefEqProofs only [gc_same, gc_ex, gc_no, ev_seq, thenS_nx, thenS_rt, thenS_bk, thenS_ct, thenS_ex, ev_skip, ev_brk, ev_cnt, ev_var, ev_c, ev_un, un1_ok, ev_bin, bin1_ok, bin2_ok, bin1_ex, bin2_ex, ev_tb, tb1_ok, tb1_ex, ev_tru, tr1_bl, tr1_non, tr1_int, tr1_str, tr1_tup, tr1_frl, tr1_ex, ev_nil, ev_cons, cons1_ok, cons2_ok, cons1_ex, cons2_ex, ev_args, arg1_ok, arg1_ex, ev_and, and1_t, and1_f, and1_ex, ev_or, or1_t, or1_f, or1_ex, ev_not, not1_ok, not1_ex, ev_andV, andV1_t, andV1_f, andV1_ex, ev_orV, orV1_t, orV1_f, orV1_ex, ev_notV, notV1_ok, notV1_ex, ev_ifE, ifE1_t, ifE1_f, ev_if, ifS1_t, ifS1_f, ifS1_ex, ev_set, set1_ok, set1_ex, ev_drop, drop1_ok, drop1_ex, ev_ret, ret1_ok, ret1_ex, ev_retN, ev_par, par1_ok, ev_asg, asg1_ok, asg1_ex, asg2_ok, ev_tgN, ev_tgT, ev_tgCons, tgC_ok, ev_tgNil, ev_semOf, fin1_nx, fin1_rt, fin1_ex, gAdd_int, gSub_int, gMul_int, gFdiv_int, gMod_int, gNeg_int, gLt_int, gLe_int, gGt_int, gGe_int, gEq_int, gNe_int, gIs_bb, gIsN_bb, gIs_non, gIs_tn, gIs_in, gIs_on, gIs_sn, gIsN_non, gIsN_tn, gIsN_in, gIsN_on, gIsN_sn, gIx_tup0, gIx_tup1, gIx_tup2, gIx_tup3, gIx_tup4, gLen_tup, gLen_frl, gLen_str, gInt_int, gInt_bl, gAbs_int, gMax_int, gMin_int, gGcd_int, gLcm_int, gList_tup, gTuple_tup, ev_for, for1_ok, for1_ex, forT_ok, forB_nx, forB_ct, forB_bk, forB_rt, forB_ex, ev_it, it1_tup, it1_frl, it1_str, ev_itA, itA1_ok, ev_sl, sl1_ok, sl2_ok, sl3_ok, ev_noPart, ev_part, part1_ok, gSlc_tup, gSlc_str, ev_sto, sto1_ok, sto2_ok, ev_raise, ev_chain, ch1_ok, ch2_ok, ch3_t, ch3_f, kd_int, kd_bl, kd_str, kd_non, kd_tup, isi_int_int, isi_int_bool, isi_int_str, isi_int_tuple, isi_int_list, isi_int_dict, isi_bl_int, isi_bl_bool, isi_bl_str, isi_bl_tuple, isi_bl_list, isi_bl_dict, isi_str_int, isi_str_bool, isi_str_str, isi_str_tuple, isi_str_list, isi_str_dict, isi_non_int, isi_non_bool, isi_non_str, isi_non_tuple, isi_non_list, isi_non_dict, isi_tup_int, isi_tup_bool, isi_tup_str, isi_tup_tuple, isi_tup_list, isi_tup_dict, isi_frl_int, isi_frl_bool, isi_frl_str, isi_frl_tuple, isi_frl_list, isi_frl_dict, gTup_0, gLst_0, gTup_1, gLst_1, gTup_2, gLst_2, gTup_3, gLst_3, gTup_4, gLst_4, gTup_5, gLst_5, gTup_6, gLst_6, gTup_7, gLst_7, gTup_8, gLst_8, gTup_9, gLst_9, List.map_cons, List.map_nil, List.length_cons, List.length_nil, List.replicate_succ, List.replicate_zero, List.cons_append, List.nil_append, List.set_cons_succ, List.set_cons_zero, List.getElem?_cons_succ, List.getElem?_cons_zero, Nat.reduceAdd, Nat.reduceSub, Nat.zero_add, Nat.add_zero, Bool.not_true, Bool.not_false, decide_true, decide_false, ne_eq, not_false_eq_true, not_true_eq_false, Bool.false_eq_true, Bool.true_eq_false]
theorem whole_non (h : DHp) : sem_is_whole [.non] h = .ok (.bl false) h := by
  unfold sem_is_whole body_is_whole
  simp -implicitDefEqProofs only [gc_same, gc_ex, gc_no, ev_seq, thenS_nx, thenS_rt, thenS_bk, thenS_ct, thenS_ex, ev_skip, ev_brk, ev_cnt, ev_var, ev_c, ev_un, un1_ok, ev_bin, bin1_ok, bin2_ok, bin1_ex, bin2_ex, ev_tb, tb1_ok, tb1_ex, ev_tru, tr1_bl, tr1_non, tr1_int, tr1_str, tr1_tup, tr1_frl, tr1_ex, ev_nil, ev_cons, cons1_ok, cons2_ok, cons1_ex, cons2_ex, ev_args, arg1_ok, arg1_ex, ev_and, and1_t, and1_f, and1_ex, ev_or, or1_t, or1_f, or1_ex, ev_not, not1_ok, not1_ex, ev_andV, andV1_t, andV1_f, andV1_ex, ev_orV, orV1_t, orV1_f, orV1_ex, ev_notV, notV1_ok, notV1_ex, ev_ifE, ifE1_t, ifE1_f, ev_if, ifS1_t, ifS1_f, ifS1_ex, ev_set, set1_ok, set1_ex, ev_drop, drop1_ok, drop1_ex, ev_ret, ret1_ok, ret1_ex, ev_retN, ev_par, par1_ok, ev_asg, asg1_ok, asg1_ex, asg2_ok, ev_tgN, ev_tgT, ev_tgCons, tgC_ok, ev_tgNil, ev_semOf, fin1_nx, fin1_rt, fin1_ex, gAdd_int, gSub_int, gMul_int, gFdiv_int, gMod_int, gNeg_int, gLt_int, gLe_int, gGt_int, gGe_int, gEq_int, gNe_int, gIs_bb, gIsN_bb, gIs_non, gIs_tn, gIs_in, gIs_on, gIs_sn, gIsN_non, gIsN_tn, gIsN_in, gIsN_on, gIsN_sn, gIx_tup0, gIx_tup1, gIx_tup2, gIx_tup3, gIx_tup4, gLen_tup, gLen_frl, gLen_str, gInt_int, gInt_bl, gAbs_int, gMax_int, gMin_int, gGcd_int, gLcm_int, gList_tup, gTuple_tup, ev_for, for1_ok, for1_ex, forT_ok, forB_nx, forB_ct, forB_bk, forB_rt, forB_ex, ev_it, it1_tup, it1_frl, it1_str, ev_itA, itA1_ok, ev_sl, sl1_ok, sl2_ok, sl3_ok, ev_noPart, ev_part, part1_ok, gSlc_tup, gSlc_str, ev_sto, sto1_ok, sto2_ok, ev_raise, ev_chain, ch1_ok, ch2_ok, ch3_t, ch3_f, kd_int, kd_bl, kd_str, kd_non, kd_tup, isi_int_int, isi_int_bool, isi_int_str, isi_int_tuple, isi_int_list, isi_int_dict, isi_bl_int, isi_bl_bool, isi_bl_str, isi_bl_tuple, isi_bl_list, isi_bl_dict, isi_str_int, isi_str_bool, isi_str_str, isi_str_tuple, isi_str_list, isi_str_dict, isi_non_int, isi_non_bool, isi_non_str, isi_non_tuple, isi_non_list, isi_non_dict, isi_tup_int, isi_tup_bool, isi_tup_str, isi_tup_tuple, isi_tup_list, isi_tup_dict, isi_frl_int, isi_frl_bool, isi_frl_str, isi_frl_tuple, isi_frl_list, isi_frl_dict, gTup_0, gLst_0, gTup_1, gLst_1, gTup_2, gLst_2, gTup_3, gLst_3, gTup_4, gLst_4, gTup_5, gLst_5, gTup_6, gLst_6, gTup_7, gLst_7, gTup_8, gLst_8, gTup_9, gLst_9, List.map_cons, List.map_nil, List.length_cons, List.length_nil, List.replicate_succ, List.replicate_zero, List.cons_append, List.nil_append, List.set_cons_succ, List.set_cons_zero, List.getElem?_cons_succ, List.getElem?_cons_zero, Nat.reduceAdd, Nat.reduceSub, Nat.zero_add, Nat.add_zero, Bool.not_true, Bool.not_false, decide_true, decide_false, ne_eq, not_false_eq_true, not_true_eq_false, Bool.false_eq_true, Bool.true_eq_false]
theorem whole_tup (l : List D) (h : DHp) : sem_is_whole [.tup l] h = .ok (.bl false) h := by
  unfold sem_is_whole body_is_whole
  simp -implicitDefEqProofs only [gc_same, gc_ex, gc_no, ev_seq, thenS_nx, thenS_rt, thenS_bk, thenS_ct, thenS_ex, ev_skip, ev_brk, ev_cnt, ev_var, ev_c, ev_un, un1_ok, ev_bin, bin1_ok, bin2_ok, bin1_ex, bin2_ex, ev_tb, tb1_ok, tb1_ex, ev_tru, tr1_bl, tr1_non, tr1_int, tr1_str, tr1_tup, tr1_frl, tr1_ex, ev_nil, ev_cons, cons1_ok, cons2_ok, cons1_ex, cons2_ex, ev_args, arg1_ok, arg1_ex, ev_and, and1_t, and1_f, and1_ex, ev_or, or1_t, or1_f, or1_ex, ev_not, not1_ok, not1_ex, ev_andV, andV1_t, andV1_f, andV1_ex, ev_orV, orV1_t, orV1_f, orV1_ex, ev_notV, notV1_ok, notV1_ex, ev_ifE, ifE1_t, ifE1_f, ev_if, ifS1_t, ifS1_f, ifS1_ex, ev_set, set1_ok, set1_ex, ev_drop, drop1_ok, drop1_ex, ev_ret, ret1_ok, ret1_ex, ev_retN, ev_par, par1_ok, ev_asg, asg1_ok, asg1_ex, asg2_ok, ev_tgN, ev_tgT, ev_tgCons, tgC_ok, ev_tgNil, ev_semOf, fin1_nx, fin1_rt, fin1_ex, gAdd_int, gSub_int, gMul_int, gFdiv_int, gMod_int, gNeg_int, gLt_int, gLe_int, gGt_int, gGe_int, gEq_int, gNe_int, gIs_bb, gIsN_bb, gIs_non, gIs_tn, gIs_in, gIs_on, gIs_sn, gIsN_non, gIsN_tn, gIsN_in, gIsN_on, gIsN_sn, gIx_tup0, gIx_tup1, gIx_tup2, gIx_tup3, gIx_tup4, gLen_tup, gLen_frl, gLen_str, gInt_int, gInt_bl, gAbs_int, gMax_int, gMin_int, gGcd_int, gLcm_int, gList_tup, gTuple_tup, ev_for, for1_ok, for1_ex, forT_ok, forB_nx, forB_ct, forB_bk, forB_rt, forB_ex, ev_it, it1_tup, it1_frl, it1_str, ev_itA, itA1_ok, ev_sl, sl1_ok, sl2_ok, sl3_ok, ev_noPart, ev_part, part1_ok, gSlc_tup, gSlc_str, ev_sto, sto1_ok, sto2_ok, ev_raise, ev_chain, ch1_ok, ch2_ok, ch3_t, ch3_f, kd_int, kd_bl, kd_str, kd_non, kd_tup, isi_int_int, isi_int_bool, isi_int_str, isi_int_tuple, isi_int_list, isi_int_dict, isi_bl_int, isi_bl_bool, isi_bl_str, isi_bl_tuple, isi_bl_list, isi_bl_dict, isi_str_int, isi_str_bool, isi_str_str, isi_str_tuple, isi_str_list, isi_str_dict, isi_non_int, isi_non_bool, isi_non_str, isi_non_tuple, isi_non_list, isi_non_dict, isi_tup_int, isi_tup_bool, isi_tup_str, isi_tup_tuple, isi_tup_list, isi_tup_dict, isi_frl_int, isi_frl_bool, isi_frl_str, isi_frl_tuple, isi_frl_list, isi_frl_dict, gTup_0, gLst_0, gTup_1, gLst_1, gTup_2, gLst_2, gTup_3, gLst_3, gTup_4, gLst_4, gTup_5, gLst_5, gTup_6, gLst_6, gTup_7, gLst_7, gTup_8, gLst_8, gTup_9, gLst_9, List.map_cons, List.map_nil, List.length_cons, List.length_nil, List.replicate_succ, List.replicate_zero, List.cons_append, List.nil_append, List.set_cons_succ, List.set_cons_zero, List.getElem?_cons_succ, List.getElem?_cons_zero, Nat.reduceAdd, Nat.reduceSub, Nat.zero_add, Nat.add_zero, Bool.not_true, Bool.not_false, decide_true, decide_false, ne_eq, not_false_eq_true, not_true_eq_false, Bool.false_eq_true, Bool.true_eq_false]
theorem whole_lst {j : Nat} {l : List D} {h : DHp} (q : h[j]? = some (.lst l)) : sem_is_whole [.obj j] h = .ok (.bl false) h := by
  unfold sem_is_whole body_is_whole
  simp -implicitDefEqProofs only [gc_same, gc_ex, gc_no, ev_seq, thenS_nx, thenS_rt, thenS_bk, thenS_ct, thenS_ex, ev_skip, ev_brk, ev_cnt, ev_var, ev_c, ev_un, un1_ok, ev_bin, bin1_ok, bin2_ok, bin1_ex, bin2_ex, ev_tb, tb1_ok, tb1_ex, ev_tru, tr1_bl, tr1_non, tr1_int, tr1_str, tr1_tup, tr1_frl, tr1_ex, ev_nil, ev_cons, cons1_ok, cons2_ok, cons1_ex, cons2_ex, ev_args, arg1_ok, arg1_ex, ev_and, and1_t, and1_f, and1_ex, ev_or, or1_t, or1_f, or1_ex, ev_not, not1_ok, not1_ex, ev_andV, andV1_t, andV1_f, andV1_ex, ev_orV, orV1_t, orV1_f, orV1_ex, ev_notV, notV1_ok, notV1_ex, ev_ifE, ifE1_t, ifE1_f, ev_if, ifS1_t, ifS1_f, ifS1_ex, ev_set, set1_ok, set1_ex, ev_drop, drop1_ok, drop1_ex, ev_ret, ret1_ok, ret1_ex, ev_retN, ev_par, par1_ok, ev_asg, asg1_ok, asg1_ex, asg2_ok, ev_tgN, ev_tgT, ev_tgCons, tgC_ok, ev_tgNil, ev_semOf, fin1_nx, fin1_rt, fin1_ex, gAdd_int, gSub_int, gMul_int, gFdiv_int, gMod_int, gNeg_int, gLt_int, gLe_int, gGt_int, gGe_int, gEq_int, gNe_int, gIs_bb, gIsN_bb, gIs_non, gIs_tn, gIs_in, gIs_on, gIs_sn, gIsN_non, gIsN_tn, gIsN_in, gIsN_on, gIsN_sn, gIx_tup0, gIx_tup1, gIx_tup2, gIx_tup3, gIx_tup4, gLen_tup, gLen_frl, gLen_str, gInt_int, gInt_bl, gAbs_int, gMax_int, gMin_int, gGcd_int, gLcm_int, gList_tup, gTuple_tup, ev_for, for1_ok, for1_ex, forT_ok, forB_nx, forB_ct, forB_bk, forB_rt, forB_ex, ev_it, it1_tup, it1_frl, it1_str, ev_itA, itA1_ok, ev_sl, sl1_ok, sl2_ok, sl3_ok, ev_noPart, ev_part, part1_ok, gSlc_tup, gSlc_str, ev_sto, sto1_ok, sto2_ok, ev_raise, ev_chain, ch1_ok, ch2_ok, ch3_t, ch3_f, kd_int, kd_bl, kd_str, kd_non, kd_tup, isi_int_int, isi_int_bool, isi_int_str, isi_int_tuple, isi_int_list, isi_int_dict, isi_bl_int, isi_bl_bool, isi_bl_str, isi_bl_tuple, isi_bl_list, isi_bl_dict, isi_str_int, isi_str_bool, isi_str_str, isi_str_tuple, isi_str_list, isi_str_dict, isi_non_int, isi_non_bool, isi_non_str, isi_non_tuple, isi_non_list, isi_non_dict, isi_tup_int, isi_tup_bool, isi_tup_str, isi_tup_tuple, isi_tup_list, isi_tup_dict, isi_frl_int, isi_frl_bool, isi_frl_str, isi_frl_tuple, isi_frl_list, isi_frl_dict, gTup_0, gLst_0, gTup_1, gLst_1, gTup_2, gLst_2, gTup_3, gLst_3, gTup_4, gLst_4, gTup_5, gLst_5, gTup_6, gLst_6, gTup_7, gLst_7, gTup_8, gLst_8, gTup_9, gLst_9, List.map_cons, List.map_nil, List.length_cons, List.length_nil, List.replicate_succ, List.replicate_zero, List.cons_append, List.nil_append, List.set_cons_succ, List.set_cons_zero, List.getElem?_cons_succ, List.getElem?_cons_zero, Nat.reduceAdd, Nat.reduceSub, Nat.zero_add, Nat.add_zero, Bool.not_true, Bool.not_false, decide_true, decide_false, ne_eq, not_false_eq_true, not_true_eq_false, Bool.false_eq_true, Bool.true_eq_false, isi_lst_int q]
theorem frac_lst {j : Nat} {l : List D} {h : DHp} (q : h[j]? = some (.lst l)) : sem_is_fraction [.obj j] h = .ok (.bl false) h := by
  unfold sem_is_fraction body_is_fraction
  simp -implicitDefEqProofs only [gc_same, gc_ex, gc_no, ev_seq, thenS_nx, thenS_rt, thenS_bk, thenS_ct, thenS_ex, ev_skip, ev_brk, ev_cnt, ev_var, ev_c, ev_un, un1_ok, ev_bin, bin1_ok, bin2_ok, bin1_ex, bin2_ex, ev_tb, tb1_ok, tb1_ex, ev_tru, tr1_bl, tr1_non, tr1_int, tr1_str, tr1_tup, tr1_frl, tr1_ex, ev_nil, ev_cons, cons1_ok, cons2_ok, cons1_ex, cons2_ex, ev_args, arg1_ok, arg1_ex, ev_and, and1_t, and1_f, and1_ex, ev_or, or1_t, or1_f, or1_ex, ev_not, not1_ok, not1_ex, ev_andV, andV1_t, andV1_f, andV1_ex, ev_orV, orV1_t, orV1_f, orV1_ex, ev_notV, notV1_ok, notV1_ex, ev_ifE, ifE1_t, ifE1_f, ev_if, ifS1_t, ifS1_f, ifS1_ex, ev_set, set1_ok, set1_ex, ev_drop, drop1_ok, drop1_ex, ev_ret, ret1_ok, ret1_ex, ev_retN, ev_par, par1_ok, ev_asg, asg1_ok, asg1_ex, asg2_ok, ev_tgN, ev_tgT, ev_tgCons, tgC_ok, ev_tgNil, ev_semOf, fin1_nx, fin1_rt, fin1_ex, gAdd_int, gSub_int, gMul_int, gFdiv_int, gMod_int, gNeg_int, gLt_int, gLe_int, gGt_int, gGe_int, gEq_int, gNe_int, gIs_bb, gIsN_bb, gIs_non, gIs_tn, gIs_in, gIs_on, gIs_sn, gIsN_non, gIsN_tn, gIsN_in, gIsN_on, gIsN_sn, gIx_tup0, gIx_tup1, gIx_tup2, gIx_tup3, gIx_tup4, gLen_tup, gLen_frl, gLen_str, gInt_int, gInt_bl, gAbs_int, gMax_int, gMin_int, gGcd_int, gLcm_int, gList_tup, gTuple_tup, ev_for, for1_ok, for1_ex, forT_ok, forB_nx, forB_ct, forB_bk, forB_rt, forB_ex, ev_it, it1_tup, it1_frl, it1_str, ev_itA, itA1_ok, ev_sl, sl1_ok, sl2_ok, sl3_ok, ev_noPart, ev_part, part1_ok, gSlc_tup, gSlc_str, ev_sto, sto1_ok, sto2_ok, ev_raise, ev_chain, ch1_ok, ch2_ok, ch3_t, ch3_f, kd_int, kd_bl, kd_str, kd_non, kd_tup, isi_int_int, isi_int_bool, isi_int_str, isi_int_tuple, isi_int_list, isi_int_dict, isi_bl_int, isi_bl_bool, isi_bl_str, isi_bl_tuple, isi_bl_list, isi_bl_dict, isi_str_int, isi_str_bool, isi_str_str, isi_str_tuple, isi_str_list, isi_str_dict, isi_non_int, isi_non_bool, isi_non_str, isi_non_tuple, isi_non_list, isi_non_dict, isi_tup_int, isi_tup_bool, isi_tup_str, isi_tup_tuple, isi_tup_list, isi_tup_dict, isi_frl_int, isi_frl_bool, isi_frl_str, isi_frl_tuple, isi_frl_list, isi_frl_dict, gTup_0, gLst_0, gTup_1, gLst_1, gTup_2, gLst_2, gTup_3, gLst_3, gTup_4, gLst_4, gTup_5, gLst_5, gTup_6, gLst_6, gTup_7, gLst_7, gTup_8, gLst_8, gTup_9, gLst_9, List.map_cons, List.map_nil, List.length_cons, List.length_nil, List.replicate_succ, List.replicate_zero, List.cons_append, List.nil_append, List.set_cons_succ, List.set_cons_zero, List.getElem?_cons_succ, List.getElem?_cons_zero, Nat.reduceAdd, Nat.reduceSub, Nat.zero_add, Nat.add_zero, Bool.not_true, Bool.not_false, decide_true, decide_false, ne_eq, not_false_eq_true, not_true_eq_false, Bool.false_eq_true, Bool.true_eq_false, isi_lst_tuple q]
theorem frac_str (z : Str) (h : DHp) : sem_is_fraction [.str z] h = .ok (.bl false) h := by
  unfold sem_is_fraction body_is_fraction
  simp -implicitDefEqProofs only [gc_same, gc_ex, gc_no, ev_seq, thenS_nx, thenS_rt, thenS_bk, thenS_ct, thenS_ex, ev_skip, ev_brk, ev_cnt, ev_var, ev_c, ev_un, un1_ok, ev_bin, bin1_ok, bin2_ok, bin1_ex, bin2_ex, ev_tb, tb1_ok, tb1_ex, ev_tru, tr1_bl, tr1_non, tr1_int, tr1_str, tr1_tup, tr1_frl, tr1_ex, ev_nil, ev_cons, cons1_ok, cons2_ok, cons1_ex, cons2_ex, ev_args, arg1_ok, arg1_ex, ev_and, and1_t, and1_f, and1_ex, ev_or, or1_t, or1_f, or1_ex, ev_not, not1_ok, not1_ex, ev_andV, andV1_t, andV1_f, andV1_ex, ev_orV, orV1_t, orV1_f, orV1_ex, ev_notV, notV1_ok, notV1_ex, ev_ifE, ifE1_t, ifE1_f, ev_if, ifS1_t, ifS1_f, ifS1_ex, ev_set, set1_ok, set1_ex, ev_drop, drop1_ok, drop1_ex, ev_ret, ret1_ok, ret1_ex, ev_retN, ev_par, par1_ok, ev_asg, asg1_ok, asg1_ex, asg2_ok, ev_tgN, ev_tgT, ev_tgCons, tgC_ok, ev_tgNil, ev_semOf, fin1_nx, fin1_rt, fin1_ex, gAdd_int, gSub_int, gMul_int, gFdiv_int, gMod_int, gNeg_int, gLt_int, gLe_int, gGt_int, gGe_int, gEq_int, gNe_int, gIs_bb, gIsN_bb, gIs_non, gIs_tn, gIs_in, gIs_on, gIs_sn, gIsN_non, gIsN_tn, gIsN_in, gIsN_on, gIsN_sn, gIx_tup0, gIx_tup1, gIx_tup2, gIx_tup3, gIx_tup4, gLen_tup, gLen_frl, gLen_str, gInt_int, gInt_bl, gAbs_int, gMax_int, gMin_int, gGcd_int, gLcm_int, gList_tup, gTuple_tup, ev_for, for1_ok, for1_ex, forT_ok, forB_nx, forB_ct, forB_bk, forB_rt, forB_ex, ev_it, it1_tup, it1_frl, it1_str, ev_itA, itA1_ok, ev_sl, sl1_ok, sl2_ok, sl3_ok, ev_noPart, ev_part, part1_ok, gSlc_tup, gSlc_str, ev_sto, sto1_ok, sto2_ok, ev_raise, ev_chain, ch1_ok, ch2_ok, ch3_t, ch3_f, kd_int, kd_bl, kd_str, kd_non, kd_tup, isi_int_int, isi_int_bool, isi_int_str, isi_int_tuple, isi_int_list, isi_int_dict, isi_bl_int, isi_bl_bool, isi_bl_str, isi_bl_tuple, isi_bl_list, isi_bl_dict, isi_str_int, isi_str_bool, isi_str_str, isi_str_tuple, isi_str_list, isi_str_dict, isi_non_int, isi_non_bool, isi_non_str, isi_non_tuple, isi_non_list, isi_non_dict, isi_tup_int, isi_tup_bool, isi_tup_str, isi_tup_tuple, isi_tup_list, isi_tup_dict, isi_frl_int, isi_frl_bool, isi_frl_str, isi_frl_tuple, isi_frl_list, isi_frl_dict, gTup_0, gLst_0, gTup_1, gLst_1, gTup_2, gLst_2, gTup_3, gLst_3, gTup_4, gLst_4, gTup_5, gLst_5, gTup_6, gLst_6, gTup_7, gLst_7, gTup_8, gLst_8, gTup_9, gLst_9, List.map_cons, List.map_nil, List.length_cons, List.length_nil, List.replicate_succ, List.replicate_zero, List.cons_append, List.nil_append, List.set_cons_succ, List.set_cons_zero, List.getElem?_cons_succ, List.getElem?_cons_zero, Nat.reduceAdd, Nat.reduceSub, Nat.zero_add, Nat.add_zero, Bool.not_true, Bool.not_false, decide_true, decide_false, ne_eq, not_false_eq_true, not_true_eq_false, Bool.false_eq_true, Bool.true_eq_false]
theorem frac_non (h : DHp) : sem_is_fraction [.non] h = .ok (.bl false) h := by
  unfold sem_is_fraction body_is_fraction
  simp -implicitDefEqProofs only [gc_same, gc_ex, gc_no, ev_seq, thenS_nx, thenS_rt, thenS_bk, thenS_ct, thenS_ex, ev_skip, ev_brk, ev_cnt, ev_var, ev_c, ev_un, un1_ok, ev_bin, bin1_ok, bin2_ok, bin1_ex, bin2_ex, ev_tb, tb1_ok, tb1_ex, ev_tru, tr1_bl, tr1_non, tr1_int, tr1_str, tr1_tup, tr1_frl, tr1_ex, ev_nil, ev_cons, cons1_ok, cons2_ok, cons1_ex, cons2_ex, ev_args, arg1_ok, arg1_ex, ev_and, and1_t, and1_f, and1_ex, ev_or, or1_t, or1_f, or1_ex, ev_not, not1_ok, not1_ex, ev_andV, andV1_t, andV1_f, andV1_ex, ev_orV, orV1_t, orV1_f, orV1_ex, ev_notV, notV1_ok, notV1_ex, ev_ifE, ifE1_t, ifE1_f, ev_if, ifS1_t, ifS1_f, ifS1_ex, ev_set, set1_ok, set1_ex, ev_drop, drop1_ok, drop1_ex, ev_ret, ret1_ok, ret1_ex, ev_retN, ev_par, par1_ok, ev_asg, asg1_ok, asg1_ex, asg2_ok, ev_tgN, ev_tgT, ev_tgCons, tgC_ok, ev_tgNil, ev_semOf, fin1_nx, fin1_rt, fin1_ex, gAdd_int, gSub_int, gMul_int, gFdiv_int, gMod_int, gNeg_int, gLt_int, gLe_int, gGt_int, gGe_int, gEq_int, gNe_int, gIs_bb, gIsN_bb, gIs_non, gIs_tn, gIs_in, gIs_on, gIs_sn, gIsN_non, gIsN_tn, gIsN_in, gIsN_on, gIsN_sn, gIx_tup0, gIx_tup1, gIx_tup2, gIx_tup3, gIx_tup4, gLen_tup, gLen_frl, gLen_str, gInt_int, gInt_bl, gAbs_int, gMax_int, gMin_int, gGcd_int, gLcm_int, gList_tup, gTuple_tup, ev_for, for1_ok, for1_ex, forT_ok, forB_nx, forB_ct, forB_bk, forB_rt, forB_ex, ev_it, it1_tup, it1_frl, it1_str, ev_itA, itA1_ok, ev_sl, sl1_ok, sl2_ok, sl3_ok, ev_noPart, ev_part, part1_ok, gSlc_tup, gSlc_str, ev_sto, sto1_ok, sto2_ok, ev_raise, ev_chain, ch1_ok, ch2_ok, ch3_t, ch3_f, kd_int, kd_bl, kd_str, kd_non, kd_tup, isi_int_int, isi_int_bool, isi_int_str, isi_int_tuple, isi_int_list, isi_int_dict, isi_bl_int, isi_bl_bool, isi_bl_str, isi_bl_tuple, isi_bl_list, isi_bl_dict, isi_str_int, isi_str_bool, isi_str_str, isi_str_tuple, isi_str_list, isi_str_dict, isi_non_int, isi_non_bool, isi_non_str, isi_non_tuple, isi_non_list, isi_non_dict, isi_tup_int, isi_tup_bool, isi_tup_str, isi_tup_tuple, isi_tup_list, isi_tup_dict, isi_frl_int, isi_frl_bool, isi_frl_str, isi_frl_tuple, isi_frl_list, isi_frl_dict, gTup_0, gLst_0, gTup_1, gLst_1, gTup_2, gLst_2, gTup_3, gLst_3, gTup_4, gLst_4, gTup_5, gLst_5, gTup_6, gLst_6, gTup_7, gLst_7, gTup_8, gLst_8, gTup_9, gLst_9, List.map_cons, List.map_nil, List.length_cons, List.length_nil, List.replicate_succ, List.replicate_zero, List.cons_append, List.nil_append, List.set_cons_succ, List.set_cons_zero, List.getElem?_cons_succ, List.getElem?_cons_zero, Nat.reduceAdd, Nat.reduceSub, Nat.zero_add, Nat.add_zero, Bool.not_true, Bool.not_false, decide_true, decide_false, ne_eq, not_false_eq_true, not_true_eq_false, Bool.false_eq_true, Bool.true_eq_false]
theorem frac_one (d : D) (h : DHp) : sem_is_fraction [.tup [d]] h = .ok (.bl false) h := by
  unfold sem_is_fraction body_is_fraction
  simp -implicitDefEqProofs only [gc_same, gc_ex, gc_no, ev_seq, thenS_nx, thenS_rt, thenS_bk, thenS_ct, thenS_ex, ev_skip, ev_brk, ev_cnt, ev_var, ev_c, ev_un, un1_ok, ev_bin, bin1_ok, bin2_ok, bin1_ex, bin2_ex, ev_tb, tb1_ok, tb1_ex, ev_tru, tr1_bl, tr1_non, tr1_int, tr1_str, tr1_tup, tr1_frl, tr1_ex, ev_nil, ev_cons, cons1_ok, cons2_ok, cons1_ex, cons2_ex, ev_args, arg1_ok, arg1_ex, ev_and, and1_t, and1_f, and1_ex, ev_or, or1_t, or1_f, or1_ex, ev_not, not1_ok, not1_ex, ev_andV, andV1_t, andV1_f, andV1_ex, ev_orV, orV1_t, orV1_f, orV1_ex, ev_notV, notV1_ok, notV1_ex, ev_ifE, ifE1_t, ifE1_f, ev_if, ifS1_t, ifS1_f, ifS1_ex, ev_set, set1_ok, set1_ex, ev_drop, drop1_ok, drop1_ex, ev_ret, ret1_ok, ret1_ex, ev_retN, ev_par, par1_ok, ev_asg, asg1_ok, asg1_ex, asg2_ok, ev_tgN, ev_tgT, ev_tgCons, tgC_ok, ev_tgNil, ev_semOf, fin1_nx, fin1_rt, fin1_ex, gAdd_int, gSub_int, gMul_int, gFdiv_int, gMod_int, gNeg_int, gLt_int, gLe_int, gGt_int, gGe_int, gEq_int, gNe_int, gIs_bb, gIsN_bb, gIs_non, gIs_tn, gIs_in, gIs_on, gIs_sn, gIsN_non, gIsN_tn, gIsN_in, gIsN_on, gIsN_sn, gIx_tup0, gIx_tup1, gIx_tup2, gIx_tup3, gIx_tup4, gLen_tup, gLen_frl, gLen_str, gInt_int, gInt_bl, gAbs_int, gMax_int, gMin_int, gGcd_int, gLcm_int, gList_tup, gTuple_tup, ev_for, for1_ok, for1_ex, forT_ok, forB_nx, forB_ct, forB_bk, forB_rt, forB_ex, ev_it, it1_tup, it1_frl, it1_str, ev_itA, itA1_ok, ev_sl, sl1_ok, sl2_ok, sl3_ok, ev_noPart, ev_part, part1_ok, gSlc_tup, gSlc_str, ev_sto, sto1_ok, sto2_ok, ev_raise, ev_chain, ch1_ok, ch2_ok, ch3_t, ch3_f, kd_int, kd_bl, kd_str, kd_non, kd_tup, isi_int_int, isi_int_bool, isi_int_str, isi_int_tuple, isi_int_list, isi_int_dict, isi_bl_int, isi_bl_bool, isi_bl_str, isi_bl_tuple, isi_bl_list, isi_bl_dict, isi_str_int, isi_str_bool, isi_str_str, isi_str_tuple, isi_str_list, isi_str_dict, isi_non_int, isi_non_bool, isi_non_str, isi_non_tuple, isi_non_list, isi_non_dict, isi_tup_int, isi_tup_bool, isi_tup_str, isi_tup_tuple, isi_tup_list, isi_tup_dict, isi_frl_int, isi_frl_bool, isi_frl_str, isi_frl_tuple, isi_frl_list, isi_frl_dict, gTup_0, gLst_0, gTup_1, gLst_1, gTup_2, gLst_2, gTup_3, gLst_3, gTup_4, gLst_4, gTup_5, gLst_5, gTup_6, gLst_6, gTup_7, gLst_7, gTup_8, gLst_8, gTup_9, gLst_9, List.map_cons, List.map_nil, List.length_cons, List.length_nil, List.replicate_succ, List.replicate_zero, List.cons_append, List.nil_append, List.set_cons_succ, List.set_cons_zero, List.getElem?_cons_succ, List.getElem?_cons_zero, Nat.reduceAdd, Nat.reduceSub, Nat.zero_add, Nat.add_zero, Bool.not_true, Bool.not_false, decide_true, decide_false, ne_eq, not_false_eq_true, not_true_eq_false, Bool.false_eq_true, Bool.true_eq_false, show ((1 : Nat) : Int) = 1 from rfl, show ((1 : Int) = 2) = False from by simp]
theorem frac_three (a b c : D) (h : DHp) : sem_is_fraction [.tup [a, b, c]] h = .ok (.bl false) h := by
  unfold sem_is_fraction body_is_fraction
  simp -implicitDefEqProofs only [gc_same, gc_ex, gc_no, ev_seq, thenS_nx, thenS_rt, thenS_bk, thenS_ct, thenS_ex, ev_skip, ev_brk, ev_cnt, ev_var, ev_c, ev_un, un1_ok, ev_bin, bin1_ok, bin2_ok, bin1_ex, bin2_ex, ev_tb, tb1_ok, tb1_ex, ev_tru, tr1_bl, tr1_non, tr1_int, tr1_str, tr1_tup, tr1_frl, tr1_ex, ev_nil, ev_cons, cons1_ok, cons2_ok, cons1_ex, cons2_ex, ev_args, arg1_ok, arg1_ex, ev_and, and1_t, and1_f, and1_ex, ev_or, or1_t, or1_f, or1_ex, ev_not, not1_ok, not1_ex, ev_andV, andV1_t, andV1_f, andV1_ex, ev_orV, orV1_t, orV1_f, orV1_ex, ev_notV, notV1_ok, notV1_ex, ev_ifE, ifE1_t, ifE1_f, ev_if, ifS1_t, ifS1_f, ifS1_ex, ev_set, set1_ok, set1_ex, ev_drop, drop1_ok, drop1_ex, ev_ret, ret1_ok, ret1_ex, ev_retN, ev_par, par1_ok, ev_asg, asg1_ok, asg1_ex, asg2_ok, ev_tgN, ev_tgT, ev_tgCons, tgC_ok, ev_tgNil, ev_semOf, fin1_nx, fin1_rt, fin1_ex, gAdd_int, gSub_int, gMul_int, gFdiv_int, gMod_int, gNeg_int, gLt_int, gLe_int, gGt_int, gGe_int, gEq_int, gNe_int, gIs_bb, gIsN_bb, gIs_non, gIs_tn, gIs_in, gIs_on, gIs_sn, gIsN_non, gIsN_tn, gIsN_in, gIsN_on, gIsN_sn, gIx_tup0, gIx_tup1, gIx_tup2, gIx_tup3, gIx_tup4, gLen_tup, gLen_frl, gLen_str, gInt_int, gInt_bl, gAbs_int, gMax_int, gMin_int, gGcd_int, gLcm_int, gList_tup, gTuple_tup, ev_for, for1_ok, for1_ex, forT_ok, forB_nx, forB_ct, forB_bk, forB_rt, forB_ex, ev_it, it1_tup, it1_frl, it1_str, ev_itA, itA1_ok, ev_sl, sl1_ok, sl2_ok, sl3_ok, ev_noPart, ev_part, part1_ok, gSlc_tup, gSlc_str, ev_sto, sto1_ok, sto2_ok, ev_raise, ev_chain, ch1_ok, ch2_ok, ch3_t, ch3_f, kd_int, kd_bl, kd_str, kd_non, kd_tup, isi_int_int, isi_int_bool, isi_int_str, isi_int_tuple, isi_int_list, isi_int_dict, isi_bl_int, isi_bl_bool, isi_bl_str, isi_bl_tuple, isi_bl_list, isi_bl_dict, isi_str_int, isi_str_bool, isi_str_str, isi_str_tuple, isi_str_list, isi_str_dict, isi_non_int, isi_non_bool, isi_non_str, isi_non_tuple, isi_non_list, isi_non_dict, isi_tup_int, isi_tup_bool, isi_tup_str, isi_tup_tuple, isi_tup_list, isi_tup_dict, isi_frl_int, isi_frl_bool, isi_frl_str, isi_frl_tuple, isi_frl_list, isi_frl_dict, gTup_0, gLst_0, gTup_1, gLst_1, gTup_2, gLst_2, gTup_3, gLst_3, gTup_4, gLst_4, gTup_5, gLst_5, gTup_6, gLst_6, gTup_7, gLst_7, gTup_8, gLst_8, gTup_9, gLst_9, List.map_cons, List.map_nil, List.length_cons, List.length_nil, List.replicate_succ, List.replicate_zero, List.cons_append, List.nil_append, List.set_cons_succ, List.set_cons_zero, List.getElem?_cons_succ, List.getElem?_cons_zero, Nat.reduceAdd, Nat.reduceSub, Nat.zero_add, Nat.add_zero, Bool.not_true, Bool.not_false, decide_true, decide_false, ne_eq, not_false_eq_true, not_true_eq_false, Bool.false_eq_true, Bool.true_eq_false, show ((3 : Nat) : Int) = 3 from rfl, show ((3 : Int) = 2) = False from by simp]
theorem frac_odd (a b : D) (h : DHp) (e : sem_is_whole [a] h = .ok (.bl false) h) : sem_is_fraction [.tup [a, b]] h = .ok (.bl false) h := by
  unfold sem_is_fraction body_is_fraction
  simp -implicitDefEqProofs only [gc_same, gc_ex, gc_no, ev_seq, thenS_nx, thenS_rt, thenS_bk, thenS_ct, thenS_ex, ev_skip, ev_brk, ev_cnt, ev_var, ev_c, ev_un, un1_ok, ev_bin, bin1_ok, bin2_ok, bin1_ex, bin2_ex, ev_tb, tb1_ok, tb1_ex, ev_tru, tr1_bl, tr1_non, tr1_int, tr1_str, tr1_tup, tr1_frl, tr1_ex, ev_nil, ev_cons, cons1_ok, cons2_ok, cons1_ex, cons2_ex, ev_args, arg1_ok, arg1_ex, ev_and, and1_t, and1_f, and1_ex, ev_or, or1_t, or1_f, or1_ex, ev_not, not1_ok, not1_ex, ev_andV, andV1_t, andV1_f, andV1_ex, ev_orV, orV1_t, orV1_f, orV1_ex, ev_notV, notV1_ok, notV1_ex, ev_ifE, ifE1_t, ifE1_f, ev_if, ifS1_t, ifS1_f, ifS1_ex, ev_set, set1_ok, set1_ex, ev_drop, drop1_ok, drop1_ex, ev_ret, ret1_ok, ret1_ex, ev_retN, ev_par, par1_ok, ev_asg, asg1_ok, asg1_ex, asg2_ok, ev_tgN, ev_tgT, ev_tgCons, tgC_ok, ev_tgNil, ev_semOf, fin1_nx, fin1_rt, fin1_ex, gAdd_int, gSub_int, gMul_int, gFdiv_int, gMod_int, gNeg_int, gLt_int, gLe_int, gGt_int, gGe_int, gEq_int, gNe_int, gIs_bb, gIsN_bb, gIs_non, gIs_tn, gIs_in, gIs_on, gIs_sn, gIsN_non, gIsN_tn, gIsN_in, gIsN_on, gIsN_sn, gIx_tup0, gIx_tup1, gIx_tup2, gIx_tup3, gIx_tup4, gLen_tup, gLen_frl, gLen_str, gInt_int, gInt_bl, gAbs_int, gMax_int, gMin_int, gGcd_int, gLcm_int, gList_tup, gTuple_tup, ev_for, for1_ok, for1_ex, forT_ok, forB_nx, forB_ct, forB_bk, forB_rt, forB_ex, ev_it, it1_tup, it1_frl, it1_str, ev_itA, itA1_ok, ev_sl, sl1_ok, sl2_ok, sl3_ok, ev_noPart, ev_part, part1_ok, gSlc_tup, gSlc_str, ev_sto, sto1_ok, sto2_ok, ev_raise, ev_chain, ch1_ok, ch2_ok, ch3_t, ch3_f, kd_int, kd_bl, kd_str, kd_non, kd_tup, isi_int_int, isi_int_bool, isi_int_str, isi_int_tuple, isi_int_list, isi_int_dict, isi_bl_int, isi_bl_bool, isi_bl_str, isi_bl_tuple, isi_bl_list, isi_bl_dict, isi_str_int, isi_str_bool, isi_str_str, isi_str_tuple, isi_str_list, isi_str_dict, isi_non_int, isi_non_bool, isi_non_str, isi_non_tuple, isi_non_list, isi_non_dict, isi_tup_int, isi_tup_bool, isi_tup_str, isi_tup_tuple, isi_tup_list, isi_tup_dict, isi_frl_int, isi_frl_bool, isi_frl_str, isi_frl_tuple, isi_frl_list, isi_frl_dict, gTup_0, gLst_0, gTup_1, gLst_1, gTup_2, gLst_2, gTup_3, gLst_3, gTup_4, gLst_4, gTup_5, gLst_5, gTup_6, gLst_6, gTup_7, gLst_7, gTup_8, gLst_8, gTup_9, gLst_9, List.map_cons, List.map_nil, List.length_cons, List.length_nil, List.replicate_succ, List.replicate_zero, List.cons_append, List.nil_append, List.set_cons_succ, List.set_cons_zero, List.getElem?_cons_succ, List.getElem?_cons_zero, Nat.reduceAdd, Nat.reduceSub, Nat.zero_add, Nat.add_zero, Bool.not_true, Bool.not_false, decide_true, decide_false, ne_eq, not_false_eq_true, not_true_eq_false, Bool.false_eq_true, Bool.true_eq_false, show ((2 : Nat) : Int) = 2 from rfl, e]
theorem frac_odd1 (a : Int) (b : D) (h : DHp) (e : sem_is_whole [b] h = .ok (.bl false) h) : sem_is_fraction [.tup [.int a, b]] h = .ok (.bl false) h := by
  unfold sem_is_fraction body_is_fraction
  simp -implicitDefEqProofs only [gc_same, gc_ex, gc_no, ev_seq, thenS_nx, thenS_rt, thenS_bk, thenS_ct, thenS_ex, ev_skip, ev_brk, ev_cnt, ev_var, ev_c, ev_un, un1_ok, ev_bin, bin1_ok, bin2_ok, bin1_ex, bin2_ex, ev_tb, tb1_ok, tb1_ex, ev_tru, tr1_bl, tr1_non, tr1_int, tr1_str, tr1_tup, tr1_frl, tr1_ex, ev_nil, ev_cons, cons1_ok, cons2_ok, cons1_ex, cons2_ex, ev_args, arg1_ok, arg1_ex, ev_and, and1_t, and1_f, and1_ex, ev_or, or1_t, or1_f, or1_ex, ev_not, not1_ok, not1_ex, ev_andV, andV1_t, andV1_f, andV1_ex, ev_orV, orV1_t, orV1_f, orV1_ex, ev_notV, notV1_ok, notV1_ex, ev_ifE, ifE1_t, ifE1_f, ev_if, ifS1_t, ifS1_f, ifS1_ex, ev_set, set1_ok, set1_ex, ev_drop, drop1_ok, drop1_ex, ev_ret, ret1_ok, ret1_ex, ev_retN, ev_par, par1_ok, ev_asg, asg1_ok, asg1_ex, asg2_ok, ev_tgN, ev_tgT, ev_tgCons, tgC_ok, ev_tgNil, ev_semOf, fin1_nx, fin1_rt, fin1_ex, gAdd_int, gSub_int, gMul_int, gFdiv_int, gMod_int, gNeg_int, gLt_int, gLe_int, gGt_int, gGe_int, gEq_int, gNe_int, gIs_bb, gIsN_bb, gIs_non, gIs_tn, gIs_in, gIs_on, gIs_sn, gIsN_non, gIsN_tn, gIsN_in, gIsN_on, gIsN_sn, gIx_tup0, gIx_tup1, gIx_tup2, gIx_tup3, gIx_tup4, gLen_tup, gLen_frl, gLen_str, gInt_int, gInt_bl, gAbs_int, gMax_int, gMin_int, gGcd_int, gLcm_int, gList_tup, gTuple_tup, ev_for, for1_ok, for1_ex, forT_ok, forB_nx, forB_ct, forB_bk, forB_rt, forB_ex, ev_it, it1_tup, it1_frl, it1_str, ev_itA, itA1_ok, ev_sl, sl1_ok, sl2_ok, sl3_ok, ev_noPart, ev_part, part1_ok, gSlc_tup, gSlc_str, ev_sto, sto1_ok, sto2_ok, ev_raise, ev_chain, ch1_ok, ch2_ok, ch3_t, ch3_f, kd_int, kd_bl, kd_str, kd_non, kd_tup, isi_int_int, isi_int_bool, isi_int_str, isi_int_tuple, isi_int_list, isi_int_dict, isi_bl_int, isi_bl_bool, isi_bl_str, isi_bl_tuple, isi_bl_list, isi_bl_dict, isi_str_int, isi_str_bool, isi_str_str, isi_str_tuple, isi_str_list, isi_str_dict, isi_non_int, isi_non_bool, isi_non_str, isi_non_tuple, isi_non_list, isi_non_dict, isi_tup_int, isi_tup_bool, isi_tup_str, isi_tup_tuple, isi_tup_list, isi_tup_dict, isi_frl_int, isi_frl_bool, isi_frl_str, isi_frl_tuple, isi_frl_list, isi_frl_dict, gTup_0, gLst_0, gTup_1, gLst_1, gTup_2, gLst_2, gTup_3, gLst_3, gTup_4, gLst_4, gTup_5, gLst_5, gTup_6, gLst_6, gTup_7, gLst_7, gTup_8, gLst_8, gTup_9, gLst_9, List.map_cons, List.map_nil, List.length_cons, List.length_nil, List.replicate_succ, List.replicate_zero, List.cons_append, List.nil_append, List.set_cons_succ, List.set_cons_zero, List.getElem?_cons_succ, List.getElem?_cons_zero, Nat.reduceAdd, Nat.reduceSub, Nat.zero_add, Nat.add_zero, Bool.not_true, Bool.not_false, decide_true, decide_false, ne_eq, not_false_eq_true, not_true_eq_false, Bool.false_eq_true, Bool.true_eq_false, show ((2 : Nat) : Int) = 2 from rfl, e, whole_int]
end Mill
end

section
set_option Elab.async false
set_option linter.all false
set_option maxRecDepth 100000
set_option maxHeartbeats 2000000
namespace Mill
open PySem DL
theorem lst_last {h : DHp} {o : DO} : (h ++ [o])[h.length]? = some o := by simp
theorem it1_new {h : DHp} {l : List D} : it1 (.ok (.obj h.length) (h ++ [.lst l])) = .ok ⟨l, fun h' => h'[h.length]? = some (.lst l)⟩ (h ++ [.lst l]) := it1_lst lst_last
theorem ok1000 : ∀ n : Nat, n < 1000 → sOk (toString (n : Int)) := by decide +kernel
theorem str1000 (i : Int) (h : DHp) (a : 0 ≤ i) (b : i < 1000) : gStr [.int i] h = .ok (.str (toString i)) h := by
  obtain ⟨n, rfl⟩ := Int.eq_ofNat_of_zero_le a
  refine if_pos ⟨?_, ok1000 n (by omega)⟩
  have : (n : Int).natAbs < 2 ^ 1919 := Nat.lt_of_lt_of_le (show _ < 2 ^ 10 by omega) (Nat.pow_le_pow_right (by decide) (by decide))
  exact Nat.lt_of_lt_of_le (PySem.Flt.log2_lt_of (by decide) this) (by decide)
theorem kinds_ok {P Q : Int} (A : Num P Q) (q : Int) (h : DHp) : sem__law_kinds [fr P Q, .int q] h = .ok (.bl true) h := by
  have f0 := frac_ok (h := h) A.f
  have f1 : sem_is_fraction [fr 0 1] h = .ok (.bl true) h := frac_ok ⟨by decide, by decide⟩
  have b0 : 0 ≤ Q.fmod 1000 := by rw [Int.fmod_eq_emod_of_nonneg _ (by decide)]; exact Int.emod_nonneg _ (by decide)
  have b1 : Q.fmod 1000 < 1000 := by rw [Int.fmod_eq_emod_of_nonneg _ (by decide)]; exact Int.emod_lt_of_pos _ (by decide)
  have ss := fun h => str1000 _ h b0 b1
  generalize hs : (toString (Q.fmod 1000) : Str) = s at ss
  have m2 : ∀ x, mulOk 2 x := fun x => mulL (by decide) (by decide)
  let h1 : DHp := h ++ [.lst [.int P, .int Q]]
  let l2 : List D := [fr (2 * P) (2 * Q), fr P 0, fr P (-Q), .obj h.length, .tup [.int P], .int P, fr 0 2, .non, .str "1/2"]
  let h2 : DHp := h1 ++ [.lst l2]
  let l3 : List D := [.tup [.bl true, .int 1], .tup [.int 1, .bl true], .tup [.int P, .int Q, .int 1], .tup [.str s, .int 1]]
  let h3 : DHp := h2 ++ [.lst l3]
  let h4 : DHp := h3 ++ [.lst [.int 5]]
  let l5 : List D := [.bl true, .bl false, .non, .str "5", .tup [.int 5], .obj h3.length]
  let h5 : DHp := h4 ++ [.lst l5]
  have g2 : ∀ d, d ∈ l2 → sem_is_fraction [d] h2 = .ok (.bl false) h2 := by
    intro d m
    simp only [l2, List.mem_cons, List.not_mem_nil, or_false] at m
    rcases m with rfl | rfl | rfl | rfl | rfl | rfl | rfl | rfl | rfl
    · rw [frac_fr]
      have : ¬ (Nat.gcd (2 * P).natAbs (2 * Q).natAbs = 1) := by
        rw [Int.natAbs_mul, Int.natAbs_mul, show (2 : Int).natAbs = 2 from rfl, Nat.gcd_mul_left, A.f.cop]; decide
      rw [decide_eq_false this, Bool.and_false]
    · rw [frac_fr]; rfl
    · have := A.f.pos
      rw [frac_fr, decide_eq_false (by omega)]; rfl
    · exact frac_lst (l := [.int P, .int Q]) (by simp [h2, h1])
    · exact frac_one _ _
    · exact frac_int _ _
    · rw [frac_fr]; rfl
    · exact frac_non _
    · exact frac_str _ _
  have g3 : ∀ d, d ∈ l3 → sem_is_fraction [d] h3 = .ok (.bl false) h3 := by
    intro d m
    simp only [l3, List.mem_cons, List.not_mem_nil, or_false] at m
    rcases m with rfl | rfl | rfl | rfl
    · exact frac_odd _ _ _ (whole_bl _ _)
    · exact frac_odd1 _ _ _ (whole_bl _ _)
    · exact frac_three _ _ _ _
    · exact frac_odd _ _ _ (whole_str _ _)
  have g5 : ∀ d, d ∈ l5 → sem_is_whole [d] h5 = .ok (.bl false) h5 := by
    intro d m
    simp only [l5, List.mem_cons, List.not_mem_nil, or_false] at m
    rcases m with rfl | rfl | rfl | rfl | rfl | rfl
    · exact whole_bl _ _
    · exact whole_bl _ _
    · exact whole_non _
    · exact whole_str _ _
    · exact whole_tup _ _
    · exact whole_lst (l := [.int 5]) (by simp [h5, h4])
  have n2 := near_frac (A := fr P Q) (B := .int q) (chk := fun h' => h'[h1.length]? = some (.lst l2)) lst_last l2 none g2
  have n3 := fun w => near_frac (A := fr P Q) (B := .int q) (chk := fun h' => h'[h2.length]? = some (.lst l3)) lst_last l3 w g3
  have n5 := fun w => near_whole (A := fr P Q) (B := .int q) (chk := fun h' => h'[h4.length]? = some (.lst l5)) lst_last l5 w g5
  have g : gc h (.ok (.bl true) h5) = .ok (.bl true) h := by
    show gc h (.ok (.bl true) (((((h ++ _) ++ _) ++ _) ++ _) ++ _)) = _
    rw [List.append_assoc, List.append_assoc, List.append_assoc, List.append_assoc]
    exact gc_push rfl
  simp only [h5, h4, h3, h2, h1, l2, l3, l5] at n2 n3 n5 g
  unfold sem__law_kinds body__law_kinds
  simp -implicitDefEqProofs only [gc_same, gc_ex, gc_no, ev_seq, thenS_nx, thenS_rt, thenS_bk, thenS_ct, thenS_ex, ev_skip, ev_brk, ev_cnt, ev_var, ev_c, ev_un, un1_ok, ev_bin, bin1_ok, bin2_ok, bin1_ex, bin2_ex, ev_tb, tb1_ok, tb1_ex, ev_tru, tr1_bl, tr1_non, tr1_int, tr1_str, tr1_tup, tr1_frl, tr1_ex, ev_nil, ev_cons, cons1_ok, cons2_ok, cons1_ex, cons2_ex, ev_args, arg1_ok, arg1_ex, ev_and, and1_t, and1_f, and1_ex, ev_or, or1_t, or1_f, or1_ex, ev_not, not1_ok, not1_ex, ev_andV, andV1_t, andV1_f, andV1_ex, ev_orV, orV1_t, orV1_f, orV1_ex, ev_notV, notV1_ok, notV1_ex, ev_ifE, ifE1_t, ifE1_f, ev_if, ifS1_t, ifS1_f, ifS1_ex, ev_set, set1_ok, set1_ex, ev_drop, drop1_ok, drop1_ex, ev_ret, ret1_ok, ret1_ex, ev_retN, ev_par, par1_ok, ev_asg, asg1_ok, asg1_ex, asg2_ok, ev_tgN, ev_tgT, ev_tgCons, tgC_ok, ev_tgNil, ev_semOf, fin1_nx, fin1_rt, fin1_ex, gAdd_int, gSub_int, gMul_int, gFdiv_int, gMod_int, gNeg_int, gLt_int, gLe_int, gGt_int, gGe_int, gEq_int, gNe_int, gIs_bb, gIsN_bb, gIs_non, gIs_tn, gIs_in, gIs_on, gIs_sn, gIsN_non, gIsN_tn, gIsN_in, gIsN_on, gIsN_sn, gIx_tup0, gIx_tup1, gIx_tup2, gIx_tup3, gIx_tup4, gLen_tup, gLen_frl, gLen_str, gInt_int, gInt_bl, gAbs_int, gMax_int, gMin_int, gGcd_int, gLcm_int, gList_tup, gTuple_tup, ev_for, for1_ok, for1_ex, forT_ok, forB_nx, forB_ct, forB_bk, forB_rt, forB_ex, ev_it, it1_tup, it1_frl, it1_str, ev_itA, itA1_ok, ev_sl, sl1_ok, sl2_ok, sl3_ok, ev_noPart, ev_part, part1_ok, gSlc_tup, gSlc_str, ev_sto, sto1_ok, sto2_ok, ev_raise, ev_chain, ch1_ok, ch2_ok, ch3_t, ch3_f, kd_int, kd_bl, kd_str, kd_non, kd_tup, isi_int_int, isi_int_bool, isi_int_str, isi_int_tuple, isi_int_list, isi_int_dict, isi_bl_int, isi_bl_bool, isi_bl_str, isi_bl_tuple, isi_bl_list, isi_bl_dict, isi_str_int, isi_str_bool, isi_str_str, isi_str_tuple, isi_str_list, isi_str_dict, isi_non_int, isi_non_bool, isi_non_str, isi_non_tuple, isi_non_list, isi_non_dict, isi_tup_int, isi_tup_bool, isi_tup_str, isi_tup_tuple, isi_tup_list, isi_tup_dict, isi_frl_int, isi_frl_bool, isi_frl_str, isi_frl_tuple, isi_frl_list, isi_frl_dict, gTup_0, gLst_0, gTup_1, gLst_1, gTup_2, gLst_2, gTup_3, gLst_3, gTup_4, gLst_4, gTup_5, gLst_5, gTup_6, gLst_6, gTup_7, gLst_7, gTup_8, gLst_8, gTup_9, gLst_9, List.map_cons, List.map_nil, List.length_cons, List.length_nil, List.replicate_succ, List.replicate_zero, List.cons_append, List.nil_append, List.set_cons_succ, List.set_cons_zero, List.getElem?_cons_succ, List.getElem?_cons_zero, Nat.reduceAdd, Nat.reduceSub, Nat.zero_add, Nat.add_zero, Bool.not_true, Bool.not_false, decide_true, decide_false, ne_eq, not_false_eq_true, not_true_eq_false, Bool.false_eq_true, Bool.true_eq_false, tup_fr, f0, f1, whole_int, gIx_fr0, gIx_fr1, m2, it1_new, n2, n3, n5, ss, g, show (1000 : Int) ≠ 0 by decide]
end Mill
end

section
set_option Elab.async false
set_option linter.all false
set_option maxRecDepth 100000
set_option maxHeartbeats 2000000
namespace Mill
open PySem DL
/-! try -/
def try1 (r : SR) (tb : List (Str × Bool)) (i : Nat) (fs : Exn → DSt → DHp → SR) : SR := match r with
  | .ex e sd' h' => match tb.lookup e.cls with
    | some true => if i < sd'.length then (match fs e (sd'.set i (some .exc)) h' with
      | .nx s2 h2 => .nx (s2.set i none) h2
      | .bk s2 h2 => .bk (s2.set i none) h2
      | .ct s2 h2 => .ct (s2.set i none) h2
      | .rt d h2 => .rt d h2
      | _ => .no) else .no
    | some false => .ex e sd' h'
    | none => .no
  | r => r
def try2 (r : SR) (i : Nat) : SR := match r with
  | .nx s2 h2 => .nx (s2.set i none) h2
  | .bk s2 h2 => .bk (s2.set i none) h2
  | .ct s2 h2 => .ct (s2.set i none) h2
  | .rt d h2 => .rt d h2
  | _ => .no
section
variable {sd : DSt} {h : DHp} {tb : List (Str × Bool)} {i : Nat} {fs : Exn → DSt → DHp → SR} {fb : DSt → DHp → SR} {e : Exn} {d : D} {f : Sem'} {ds : List D} {cls nm : Str} {nms : List Str} {xs : List (Str × D)}
theorem ev_try : dTry tb i fb fs sd h = try1 (fb sd h) tb i fs := rfl
theorem try1_ex (m : tb.lookup e.cls = some true) (k : i < sd.length) : try1 (.ex e sd h) tb i fs = try2 (fs e (sd.set i (some .exc)) h) i := by
  show (match tb.lookup e.cls with | some true => if i < sd.length then try2 (fs e (sd.set i (some .exc)) h) i else .no | some false => .ex e sd h | none => .no) = _
  rw [m]
  show (if i < sd.length then _ else _) = _
  rw [if_pos k]
theorem try1_rt : try1 (.rt d h) tb i fs = .rt d h := rfl
theorem try1_nx : try1 (.nx sd h) tb i fs = .nx sd h := rfl
theorem try2_nx : try2 (.nx sd h) i = .nx (sd.set i none) h := rfl
theorem try2_rt : try2 (.rt d h) i = .rt d h := rfl
theorem noX_ok {h' : DHp} (e : f ds h = .ok d h') : noX f ds h = .ok d h' := by
  unfold noX; rw [e]
theorem xf_ok (m : cls ∈ nms) (k : xs.lookup nm = some d) : dXf ⟨cls, some xs⟩ nms nm sd h = .ok d h := by
  unfold dXf
  rw [if_pos m]
  show (match xs.lookup nm with | some d => R.ok d h | none => .no) = _
  rw [k]
theorem isE_ok {o : Option (List (Str × D))} {b : Bool} (k : tb.lookup cls = some b) : dIsE ⟨cls, o⟩ tb sd h = .ok (.bl b) h := by
  unfold dIsE
  show (match tb.lookup cls with | some b => R.ok (D.bl b) h | none => R.no) = _
  rw [k]
end
theorem zero_ok {P Q : Int} (p : Int) (h : DHp) : sem__law_zero [.int p, fr P Q] h = .ok (.bl true) h := by
  have e1 := fraction_zero p h
  have e2 := over_zero (P := P) (Q := Q) (S := 1) h
  have w : noX sem__law_is_whole [.int p] h = .ok (.bl true) h := noX_ok (law_is_whole_int p h)
  have x1 : ∀ p sd, dXf ⟨"ZeroDenominator", some [("number", .int p)]⟩ ["ZeroDenominator"] "number" sd h = .ok (.int p) h := fun p sd => xf_ok List.mem_cons_self (by simp)
  have t : ∀ {sd fs} {o : Option (List (Str × D))}, 2 < sd.length → try1 (.ex ⟨"ZeroDenominator", o⟩ sd h) [("ZeroDenominator", true)] 2 fs = try2 (fs ⟨"ZeroDenominator", o⟩ (sd.set 2 (some .exc)) h) 2 := fun k => try1_ex (by simp) k
  have i : ∀ {b : Bool} {sd : DSt} {o : Option (List (Str × D))}, dIsE ⟨"ZeroDenominator", o⟩ [("ZeroDenominator", b)] sd h = .ok (.bl b) h := isE_ok (by simp)
  unfold sem__law_zero body__law_zero
  simp -implicitDefEqProofs only [gc_same, gc_ex, gc_no, ev_seq, thenS_nx, thenS_rt, thenS_bk, thenS_ct, thenS_ex, ev_skip, ev_brk, ev_cnt, ev_var, ev_c, ev_un, un1_ok, ev_bin, bin1_ok, bin2_ok, bin1_ex, bin2_ex, ev_tb, tb1_ok, tb1_ex, ev_tru, tr1_bl, tr1_non, tr1_int, tr1_str, tr1_tup, tr1_frl, tr1_ex, ev_nil, ev_cons, cons1_ok, cons2_ok, cons1_ex, cons2_ex, ev_args, arg1_ok, arg1_ex, ev_and, and1_t, and1_f, and1_ex, ev_or, or1_t, or1_f, or1_ex, ev_not, not1_ok, not1_ex, ev_andV, andV1_t, andV1_f, andV1_ex, ev_orV, orV1_t, orV1_f, orV1_ex, ev_notV, notV1_ok, notV1_ex, ev_ifE, ifE1_t, ifE1_f, ev_if, ifS1_t, ifS1_f, ifS1_ex, ev_set, set1_ok, set1_ex, ev_drop, drop1_ok, drop1_ex, ev_ret, ret1_ok, ret1_ex, ev_retN, ev_par, par1_ok, ev_asg, asg1_ok, asg1_ex, asg2_ok, ev_tgN, ev_tgT, ev_tgCons, tgC_ok, ev_tgNil, ev_semOf, fin1_nx, fin1_rt, fin1_ex, gAdd_int, gSub_int, gMul_int, gFdiv_int, gMod_int, gNeg_int, gLt_int, gLe_int, gGt_int, gGe_int, gEq_int, gNe_int, gIs_bb, gIsN_bb, gIs_non, gIs_tn, gIs_in, gIs_on, gIs_sn, gIsN_non, gIsN_tn, gIsN_in, gIsN_on, gIsN_sn, gIx_tup0, gIx_tup1, gIx_tup2, gIx_tup3, gIx_tup4, gLen_tup, gLen_frl, gLen_str, gInt_int, gInt_bl, gAbs_int, gMax_int, gMin_int, gGcd_int, gLcm_int, gList_tup, gTuple_tup, ev_for, for1_ok, for1_ex, forT_ok, forB_nx, forB_ct, forB_bk, forB_rt, forB_ex, ev_it, it1_tup, it1_frl, it1_str, ev_itA, itA1_ok, ev_sl, sl1_ok, sl2_ok, sl3_ok, ev_noPart, ev_part, part1_ok, gSlc_tup, gSlc_str, ev_sto, sto1_ok, sto2_ok, ev_raise, ev_chain, ch1_ok, ch2_ok, ch3_t, ch3_f, kd_int, kd_bl, kd_str, kd_non, kd_tup, isi_int_int, isi_int_bool, isi_int_str, isi_int_tuple, isi_int_list, isi_int_dict, isi_bl_int, isi_bl_bool, isi_bl_str, isi_bl_tuple, isi_bl_list, isi_bl_dict, isi_str_int, isi_str_bool, isi_str_str, isi_str_tuple, isi_str_list, isi_str_dict, isi_non_int, isi_non_bool, isi_non_str, isi_non_tuple, isi_non_list, isi_non_dict, isi_tup_int, isi_tup_bool, isi_tup_str, isi_tup_tuple, isi_tup_list, isi_tup_dict, isi_frl_int, isi_frl_bool, isi_frl_str, isi_frl_tuple, isi_frl_list, isi_frl_dict, gTup_0, gLst_0, gTup_1, gLst_1, gTup_2, gLst_2, gTup_3, gLst_3, gTup_4, gLst_4, gTup_5, gLst_5, gTup_6, gLst_6, gTup_7, gLst_7, gTup_8, gLst_8, gTup_9, gLst_9, List.map_cons, List.map_nil, List.length_cons, List.length_nil, List.replicate_succ, List.replicate_zero, List.cons_append, List.nil_append, List.set_cons_succ, List.set_cons_zero, List.getElem?_cons_succ, List.getElem?_cons_zero, Nat.reduceAdd, Nat.reduceSub, Nat.zero_add, Nat.add_zero, Bool.not_true, Bool.not_false, decide_true, decide_false, ne_eq, not_false_eq_true, not_true_eq_false, Bool.false_eq_true, Bool.true_eq_false, tup_fr, e1, e2, ev_try, t, try2_nx, try2_rt, w, x1, i, gIx_fr0, List.set_cons_succ, List.set_cons_zero, show (2 : Nat) < 3 by decide, Nat.reduceLT]
end Mill
end

section
set_option Elab.async false
set_option linter.all false
set_option maxRecDepth 100000
set_option maxHeartbeats 2000000
set_option exponentiation.threshold 2000
namespace Mill
open PySem DL
def frp (x : Int × Int) : D := fr x.1 x.2
def sumF : Int × Int → List (Int × Int) → Int × Int
  | s, [] => s
  | s, x :: L => sumF (s.1 * x.2 + x.1 * s.2, s.2 * x.2) L
def lcmF : Nat → List (Int × Int) → Nat
  | s, [] => s
  | s, x :: L => lcmF (Nat.lcm s x.2.natAbs) L
theorem lcm_lt {s t n m : Nat} (a : s < 2 ^ n) (b : t < 2 ^ m) : Nat.lcm s t < 2 ^ (n + m) := by
  have h1 : Nat.lcm s t ≤ s * t := Nat.div_le_self _ _
  have h2 : s * t < 2 ^ n * 2 ^ m := Nat.mul_lt_mul'' a b
  rw [Nat.pow_add]; omega
theorem lcm_div {s : Nat} {Q : Int} (q : 0 < Q) : ((s : Int) * Q).fdiv ((Nat.gcd (s : Int).natAbs Q.natAbs : Nat) : Int) = ((Nat.lcm s Q.natAbs : Nat) : Int) := by
  obtain ⟨t, rfl⟩ := Int.eq_ofNat_of_zero_le (Int.le_of_lt q)
  rw [Int.fdiv_eq_ediv_of_nonneg _ (by omega)]
  simp only [Int.natAbs_natCast]
  rfl
section
variable {h : DHp} {chk : DHp → Prop} {a b c j row : Option D}
theorem sums_loop (k : chk h) : ∀ (L : List (Int × Int)) (p q : Int) (s n : Nat) (w : Option D), (∀ x, x ∈ L → Num x.1 x.2) → p.natAbs < 2 ^ n → q.natAbs < 2 ^ n → s < 2 ^ n → 0 < n → n + 141 * L.length ≤ 1000 →
    dForL chk (tgN 8) (dSeq (dSet 5 (dBin gAdd (dBin gMul (dVar 5) (dBin gIx (dVar 8) (dC (.int 1)))) (dBin gMul (dBin gIx (dVar 8) (dC (.int 0))) (dVar 6))))
    (dSeq (dSet 6 (dBin gMul (dVar 6) (dBin gIx (dVar 8) (dC (.int 1)))))
    (dSet 7 (dBin gFdiv (dBin gMul (dVar 7) (dBin gIx (dVar 8) (dC (.int 1)))) (dArgs sem__law_gcd (dCons (dVar 7) (dCons (dBin gIx (dVar 8) (dC (.int 1))) dNil))))))) (L.map frp) [a, b, c, j, row, some (.int p), some (.int q), some (.int s), w, none, none] h
    = .nx [a, b, c, j, row, some (.int (sumF (p, q) L).1), some (.int (sumF (p, q) L).2), some (.int (lcmF s L)), lastW (L.map frp) w, none, none] h
      ∧ (sumF (p, q) L).1.natAbs < 2 ^ (n + 141 * L.length) ∧ (sumF (p, q) L).2.natAbs < 2 ^ (n + 141 * L.length) ∧ lcmF s L < 2 ^ (n + 141 * L.length)
  | [], p, q, s, n, w, _, hp, hq, hs, _, _ => ⟨dForL_nil k, hp, hq, hs⟩
  | x :: L, p, q, s, n, w, hN, hp, hq, hs, n0, hn => by
    have N := hN x List.mem_cons_self
    rw [List.length_cons] at hn
    have e1 : (p * x.2 + x.1 * q).natAbs < 2 ^ (n + 141) := bd_add (bd_mul hp N.q) (by rw [Nat.add_comm]; exact bd_mul N.p hq)
    have e2 : (q * x.2).natAbs < 2 ^ (n + 141) := bd_mono (bd_mul hq N.q) (by omega)
    have e3 : Nat.lcm s x.2.natAbs < 2 ^ (n + 141) := Nat.lt_of_lt_of_le (lcm_lt hs N.q) (Nat.pow_le_pow_right (by decide) (by omega))
    obtain ⟨r, r1, r2, r3⟩ := sums_loop k L _ _ _ (n + 141) (some (frp x)) (fun y m => hN y (List.mem_cons_of_mem _ m)) e1 e2 e3 (by omega) (by omega)
    have E : n + 141 + 141 * L.length = n + 141 * (x :: L).length := by rw [List.length_cons]; omega
    rw [E] at r1 r2 r3
    refine ⟨?_, r1, r2, r3⟩
    have g := law_gcd_ok (s : Int) x.2 h (bd_mono N.q (by decide))
    have g0 : Nat.gcd (s : Int).natAbs x.2.natAbs ≠ 0 := fun z => by have := Nat.eq_zero_of_gcd_eq_zero_right z; have := N.f.pos; omega
    have m1 : mulOk p x.2 := mulOk_bd hp N.q n0 (by decide) (by omega)
    have m2 : mulOk x.1 q := mulOk_bd N.p hq (by decide) n0 (by omega)
    have m3 : mulOk q x.2 := mulOk_bd hq N.q n0 (by decide) (by omega)
    have m4 : mulOk (s : Int) x.2 := mulOk_bd (by rw [Int.natAbs_natCast]; exact hs) N.q n0 (by decide) (by omega)
    have x0 := N.f.pos
    have m5 : divOk ((Nat.gcd (s : Int).natAbs x.2.natAbs : Nat) : Int) := divOk_gcd (by omega) N.q (by decide) (by decide)
    rw [List.map_cons, dForL_cons k]
    unfold frp at r ⊢
    simp -implicitDefEqProofs only [gc_same, gc_ex, gc_no, ev_seq, thenS_nx, thenS_rt, thenS_bk, thenS_ct, thenS_ex, ev_skip, ev_brk, ev_cnt, ev_var, ev_c, ev_un, un1_ok, ev_bin, bin1_ok, bin2_ok, bin1_ex, bin2_ex, ev_tb, tb1_ok, tb1_ex, ev_tru, tr1_bl, tr1_non, tr1_int, tr1_str, tr1_tup, tr1_frl, tr1_ex, ev_nil, ev_cons, cons1_ok, cons2_ok, cons1_ex, cons2_ex, ev_args, arg1_ok, arg1_ex, ev_and, and1_t, and1_f, and1_ex, ev_or, or1_t, or1_f, or1_ex, ev_not, not1_ok, not1_ex, ev_andV, andV1_t, andV1_f, andV1_ex, ev_orV, orV1_t, orV1_f, orV1_ex, ev_notV, notV1_ok, notV1_ex, ev_ifE, ifE1_t, ifE1_f, ev_if, ifS1_t, ifS1_f, ifS1_ex, ev_set, set1_ok, set1_ex, ev_drop, drop1_ok, drop1_ex, ev_ret, ret1_ok, ret1_ex, ev_retN, ev_par, par1_ok, ev_asg, asg1_ok, asg1_ex, asg2_ok, ev_tgN, ev_tgT, ev_tgCons, tgC_ok, ev_tgNil, ev_semOf, fin1_nx, fin1_rt, fin1_ex, gAdd_int, gSub_int, gMul_int, gFdiv_int, gMod_int, gNeg_int, gLt_int, gLe_int, gGt_int, gGe_int, gEq_int, gNe_int, gIs_bb, gIsN_bb, gIs_non, gIs_tn, gIs_in, gIs_on, gIs_sn, gIsN_non, gIsN_tn, gIsN_in, gIsN_on, gIsN_sn, gIx_tup0, gIx_tup1, gIx_tup2, gIx_tup3, gIx_tup4, gLen_tup, gLen_frl, gLen_str, gInt_int, gInt_bl, gAbs_int, gMax_int, gMin_int, gGcd_int, gLcm_int, gList_tup, gTuple_tup, ev_for, for1_ok, for1_ex, forT_ok, forB_nx, forB_ct, forB_bk, forB_rt, forB_ex, ev_it, it1_tup, it1_frl, it1_str, ev_itA, itA1_ok, ev_sl, sl1_ok, sl2_ok, sl3_ok, ev_noPart, ev_part, part1_ok, gSlc_tup, gSlc_str, ev_sto, sto1_ok, sto2_ok, ev_raise, ev_chain, ch1_ok, ch2_ok, ch3_t, ch3_f, kd_int, kd_bl, kd_str, kd_non, kd_tup, isi_int_int, isi_int_bool, isi_int_str, isi_int_tuple, isi_int_list, isi_int_dict, isi_bl_int, isi_bl_bool, isi_bl_str, isi_bl_tuple, isi_bl_list, isi_bl_dict, isi_str_int, isi_str_bool, isi_str_str, isi_str_tuple, isi_str_list, isi_str_dict, isi_non_int, isi_non_bool, isi_non_str, isi_non_tuple, isi_non_list, isi_non_dict, isi_tup_int, isi_tup_bool, isi_tup_str, isi_tup_tuple, isi_tup_list, isi_tup_dict, isi_frl_int, isi_frl_bool, isi_frl_str, isi_frl_tuple, isi_frl_list, isi_frl_dict, gTup_0, gLst_0, gTup_1, gLst_1, gTup_2, gLst_2, gTup_3, gLst_3, gTup_4, gLst_4, gTup_5, gLst_5, gTup_6, gLst_6, gTup_7, gLst_7, gTup_8, gLst_8, gTup_9, gLst_9, List.map_cons, List.map_nil, List.length_cons, List.length_nil, List.replicate_succ, List.replicate_zero, List.cons_append, List.nil_append, List.set_cons_succ, List.set_cons_zero, List.getElem?_cons_succ, List.getElem?_cons_zero, Nat.reduceAdd, Nat.reduceSub, Nat.zero_add, Nat.add_zero, Bool.not_true, Bool.not_false, decide_true, decide_false, ne_eq, not_false_eq_true, not_true_eq_false, Bool.false_eq_true, Bool.true_eq_false, gIx_fr0, gIx_fr1, g, m1, m2, m3, m4, m5, lcm_div x0]
    exact r
theorem common_loop {v : Option D} (k : chk h) : ∀ (L : List (Int × Int)) (s n : Nat) (w : Option D), (∀ x, x ∈ L → Num x.1 x.2) → s < 2 ^ n → 0 < n → n + 141 * L.length ≤ 1000 →
    dForL chk (tgN 2) (dSet 1 (dArgs gLcm (dCons (dVar 1) (dCons (dBin gIx (dVar 2) (dC (.int 1))) dNil)))) (L.map frp) [v, some (.int s), w] h = .nx [v, some (.int (lcmF s L)), lastW (L.map frp) w] h
  | [], s, n, w, _, hs, _, _ => dForL_nil k
  | x :: L, s, n, w, hN, hs, n0, hn => by
    have N := hN x List.mem_cons_self
    rw [List.length_cons] at hn
    have e3 : Nat.lcm s x.2.natAbs < 2 ^ (n + 141) := Nat.lt_of_lt_of_le (lcm_lt hs N.q) (Nat.pow_le_pow_right (by decide) (by omega))
    have r := common_loop (v := v) k L _ (n + 141) (some (frp x)) (fun y m => hN y (List.mem_cons_of_mem _ m)) e3 (by omega) (by omega)
    have ok : lcmOk (s : Int) x.2 := ⟨by rw [Int.natAbs_natCast]; exact Nat.lt_of_lt_of_le hs (Nat.pow_le_pow_right (by decide) (by omega)), bd_mono N.q (by decide)⟩
    rw [List.map_cons, dForL_cons k]
    unfold frp at r ⊢
    simp -implicitDefEqProofs only [gc_same, gc_ex, gc_no, ev_seq, thenS_nx, thenS_rt, thenS_bk, thenS_ct, thenS_ex, ev_skip, ev_brk, ev_cnt, ev_var, ev_c, ev_un, un1_ok, ev_bin, bin1_ok, bin2_ok, bin1_ex, bin2_ex, ev_tb, tb1_ok, tb1_ex, ev_tru, tr1_bl, tr1_non, tr1_int, tr1_str, tr1_tup, tr1_frl, tr1_ex, ev_nil, ev_cons, cons1_ok, cons2_ok, cons1_ex, cons2_ex, ev_args, arg1_ok, arg1_ex, ev_and, and1_t, and1_f, and1_ex, ev_or, or1_t, or1_f, or1_ex, ev_not, not1_ok, not1_ex, ev_andV, andV1_t, andV1_f, andV1_ex, ev_orV, orV1_t, orV1_f, orV1_ex, ev_notV, notV1_ok, notV1_ex, ev_ifE, ifE1_t, ifE1_f, ev_if, ifS1_t, ifS1_f, ifS1_ex, ev_set, set1_ok, set1_ex, ev_drop, drop1_ok, drop1_ex, ev_ret, ret1_ok, ret1_ex, ev_retN, ev_par, par1_ok, ev_asg, asg1_ok, asg1_ex, asg2_ok, ev_tgN, ev_tgT, ev_tgCons, tgC_ok, ev_tgNil, ev_semOf, fin1_nx, fin1_rt, fin1_ex, gAdd_int, gSub_int, gMul_int, gFdiv_int, gMod_int, gNeg_int, gLt_int, gLe_int, gGt_int, gGe_int, gEq_int, gNe_int, gIs_bb, gIsN_bb, gIs_non, gIs_tn, gIs_in, gIs_on, gIs_sn, gIsN_non, gIsN_tn, gIsN_in, gIsN_on, gIsN_sn, gIx_tup0, gIx_tup1, gIx_tup2, gIx_tup3, gIx_tup4, gLen_tup, gLen_frl, gLen_str, gInt_int, gInt_bl, gAbs_int, gMax_int, gMin_int, gGcd_int, gLcm_int, gList_tup, gTuple_tup, ev_for, for1_ok, for1_ex, forT_ok, forB_nx, forB_ct, forB_bk, forB_rt, forB_ex, ev_it, it1_tup, it1_frl, it1_str, ev_itA, itA1_ok, ev_sl, sl1_ok, sl2_ok, sl3_ok, ev_noPart, ev_part, part1_ok, gSlc_tup, gSlc_str, ev_sto, sto1_ok, sto2_ok, ev_raise, ev_chain, ch1_ok, ch2_ok, ch3_t, ch3_f, kd_int, kd_bl, kd_str, kd_non, kd_tup, isi_int_int, isi_int_bool, isi_int_str, isi_int_tuple, isi_int_list, isi_int_dict, isi_bl_int, isi_bl_bool, isi_bl_str, isi_bl_tuple, isi_bl_list, isi_bl_dict, isi_str_int, isi_str_bool, isi_str_str, isi_str_tuple, isi_str_list, isi_str_dict, isi_non_int, isi_non_bool, isi_non_str, isi_non_tuple, isi_non_list, isi_non_dict, isi_tup_int, isi_tup_bool, isi_tup_str, isi_tup_tuple, isi_tup_list, isi_tup_dict, isi_frl_int, isi_frl_bool, isi_frl_str, isi_frl_tuple, isi_frl_list, isi_frl_dict, gTup_0, gLst_0, gTup_1, gLst_1, gTup_2, gLst_2, gTup_3, gLst_3, gTup_4, gLst_4, gTup_5, gLst_5, gTup_6, gLst_6, gTup_7, gLst_7, gTup_8, gLst_8, gTup_9, gLst_9, List.map_cons, List.map_nil, List.length_cons, List.length_nil, List.replicate_succ, List.replicate_zero, List.cons_append, List.nil_append, List.set_cons_succ, List.set_cons_zero, List.getElem?_cons_succ, List.getElem?_cons_zero, Nat.reduceAdd, Nat.reduceSub, Nat.zero_add, Nat.add_zero, Bool.not_true, Bool.not_false, decide_true, decide_false, ne_eq, not_false_eq_true, not_true_eq_false, Bool.false_eq_true, Bool.true_eq_false, gIx_fr0, gIx_fr1, ok, Int.natAbs_natCast]
    exact r
theorem common_ok {d : D} {L : List (Int × Int)} (i : it1 (.ok d h) = .ok ⟨L.map frp, chk⟩ h) (k : chk h) (hN : ∀ x, x ∈ L → Num x.1 x.2) (hl : L.length ≤ 3) : sem_common [d] h = .ok (.int (lcmF 1 L)) h := by
  have r := common_loop (v := some d) k L 1 1 none hN (by decide) (by decide) (by omega)
  rw [show ((1 : Nat) : Int) = 1 from rfl] at r
  unfold sem_common body_common
  simp -implicitDefEqProofs only [gc_same, gc_ex, gc_no, ev_seq, thenS_nx, thenS_rt, thenS_bk, thenS_ct, thenS_ex, ev_skip, ev_brk, ev_cnt, ev_var, ev_c, ev_un, un1_ok, ev_bin, bin1_ok, bin2_ok, bin1_ex, bin2_ex, ev_tb, tb1_ok, tb1_ex, ev_tru, tr1_bl, tr1_non, tr1_int, tr1_str, tr1_tup, tr1_frl, tr1_ex, ev_nil, ev_cons, cons1_ok, cons2_ok, cons1_ex, cons2_ex, ev_args, arg1_ok, arg1_ex, ev_and, and1_t, and1_f, and1_ex, ev_or, or1_t, or1_f, or1_ex, ev_not, not1_ok, not1_ex, ev_andV, andV1_t, andV1_f, andV1_ex, ev_orV, orV1_t, orV1_f, orV1_ex, ev_notV, notV1_ok, notV1_ex, ev_ifE, ifE1_t, ifE1_f, ev_if, ifS1_t, ifS1_f, ifS1_ex, ev_set, set1_ok, set1_ex, ev_drop, drop1_ok, drop1_ex, ev_ret, ret1_ok, ret1_ex, ev_retN, ev_par, par1_ok, ev_asg, asg1_ok, asg1_ex, asg2_ok, ev_tgN, ev_tgT, ev_tgCons, tgC_ok, ev_tgNil, ev_semOf, fin1_nx, fin1_rt, fin1_ex, gAdd_int, gSub_int, gMul_int, gFdiv_int, gMod_int, gNeg_int, gLt_int, gLe_int, gGt_int, gGe_int, gEq_int, gNe_int, gIs_bb, gIsN_bb, gIs_non, gIs_tn, gIs_in, gIs_on, gIs_sn, gIsN_non, gIsN_tn, gIsN_in, gIsN_on, gIsN_sn, gIx_tup0, gIx_tup1, gIx_tup2, gIx_tup3, gIx_tup4, gLen_tup, gLen_frl, gLen_str, gInt_int, gInt_bl, gAbs_int, gMax_int, gMin_int, gGcd_int, gLcm_int, gList_tup, gTuple_tup, ev_for, for1_ok, for1_ex, forT_ok, forB_nx, forB_ct, forB_bk, forB_rt, forB_ex, ev_it, it1_tup, it1_frl, it1_str, ev_itA, itA1_ok, ev_sl, sl1_ok, sl2_ok, sl3_ok, ev_noPart, ev_part, part1_ok, gSlc_tup, gSlc_str, ev_sto, sto1_ok, sto2_ok, ev_raise, ev_chain, ch1_ok, ch2_ok, ch3_t, ch3_f, kd_int, kd_bl, kd_str, kd_non, kd_tup, isi_int_int, isi_int_bool, isi_int_str, isi_int_tuple, isi_int_list, isi_int_dict, isi_bl_int, isi_bl_bool, isi_bl_str, isi_bl_tuple, isi_bl_list, isi_bl_dict, isi_str_int, isi_str_bool, isi_str_str, isi_str_tuple, isi_str_list, isi_str_dict, isi_non_int, isi_non_bool, isi_non_str, isi_non_tuple, isi_non_list, isi_non_dict, isi_tup_int, isi_tup_bool, isi_tup_str, isi_tup_tuple, isi_tup_list, isi_tup_dict, isi_frl_int, isi_frl_bool, isi_frl_str, isi_frl_tuple, isi_frl_list, isi_frl_dict, gTup_0, gLst_0, gTup_1, gLst_1, gTup_2, gLst_2, gTup_3, gLst_3, gTup_4, gLst_4, gTup_5, gLst_5, gTup_6, gLst_6, gTup_7, gLst_7, gTup_8, gLst_8, gTup_9, gLst_9, List.map_cons, List.map_nil, List.length_cons, List.length_nil, List.replicate_succ, List.replicate_zero, List.cons_append, List.nil_append, List.set_cons_succ, List.set_cons_zero, List.getElem?_cons_succ, List.getElem?_cons_zero, Nat.reduceAdd, Nat.reduceSub, Nat.zero_add, Nat.add_zero, Bool.not_true, Bool.not_false, decide_true, decide_false, ne_eq, not_false_eq_true, not_true_eq_false, Bool.false_eq_true, Bool.true_eq_false, i, r]
theorem total_loop {v : Option D} (k : chk h) : ∀ (L : List (Int × Int)) (N D' : Int) (n : Nat) (w : Option D), (∀ x, x ∈ L → Num x.1 x.2) → Fr N D' → N.natAbs < 2 ^ n → D'.natAbs < 2 ^ n → 0 < n → n + 141 * L.length ≤ 1000 →
    ∃ N1 D1 : Int, dForL chk (tgN 2) (dSet 1 (dArgs sem_plus (dCons (dVar 1) (dCons (dVar 2) dNil)))) (L.map frp) [v, some (fr N D'), w] h = .nx [v, some (fr N1 D1), lastW (L.map frp) w] h
      ∧ Fr N1 D1 ∧ N1.natAbs < 2 ^ (n + 141 * L.length) ∧ D1.natAbs < 2 ^ (n + 141 * L.length) ∧ ∀ p q, N * q = p * D' → N1 * (sumF (p, q) L).2 = (sumF (p, q) L).1 * D1
  | [], N, D', n, w, _, F, h1, h2, _, _ => ⟨N, D', dForL_nil k, F, h1, h2, fun p q e => e⟩
  | x :: L, N, D', n, w, hN, F, h1, h2, n0, hn => by
    have M := hN x List.mem_cons_self
    rw [List.length_cons] at hn
    have d0 := F.pos
    have x0 := M.f.pos
    have q0 : D' * x.2 ≠ 0 := Int.ne_of_gt (Int.mul_pos d0 x0)
    have pl := plus_ok h h1 h2 M.p M.q n0 (by decide) (by omega) q0
    have b1 : (N * x.2 + x.1 * D').natAbs < 2 ^ (n + 141) := bd_add (bd_mul h1 M.q) (by rw [Nat.add_comm]; exact bd_mul M.p h2)
    have b2 : (D' * x.2).natAbs < 2 ^ (n + 141) := bd_mono (bd_mul h2 M.q) (by omega)
    obtain ⟨N1, D1, r, F1, c1, c2, rel⟩ := total_loop (v := v) k L _ _ (n + 141) (some (frp x)) (fun y m => hN y (List.mem_cons_of_mem _ m)) (nrm_fr (p := N * x.2 + x.1 * D') q0) (Nat.lt_of_le_of_lt (nP_le _ _) b1) (Nat.lt_of_le_of_lt (nQ_le _ _) b2) (by omega) (by omega)
    have E : n + 141 + 141 * L.length = n + 141 * (x :: L).length := by rw [List.length_cons]; omega
    rw [E] at c1 c2
    refine ⟨N1, D1, ?_, F1, c1, c2, fun p q e => rel _ _ ?_⟩
    · rw [List.map_cons, dForL_cons k]
      unfold frp at r ⊢
      simp -implicitDefEqProofs only [gc_same, gc_ex, gc_no, ev_seq, thenS_nx, thenS_rt, thenS_bk, thenS_ct, thenS_ex, ev_skip, ev_brk, ev_cnt, ev_var, ev_c, ev_un, un1_ok, ev_bin, bin1_ok, bin2_ok, bin1_ex, bin2_ex, ev_tb, tb1_ok, tb1_ex, ev_tru, tr1_bl, tr1_non, tr1_int, tr1_str, tr1_tup, tr1_frl, tr1_ex, ev_nil, ev_cons, cons1_ok, cons2_ok, cons1_ex, cons2_ex, ev_args, arg1_ok, arg1_ex, ev_and, and1_t, and1_f, and1_ex, ev_or, or1_t, or1_f, or1_ex, ev_not, not1_ok, not1_ex, ev_andV, andV1_t, andV1_f, andV1_ex, ev_orV, orV1_t, orV1_f, orV1_ex, ev_notV, notV1_ok, notV1_ex, ev_ifE, ifE1_t, ifE1_f, ev_if, ifS1_t, ifS1_f, ifS1_ex, ev_set, set1_ok, set1_ex, ev_drop, drop1_ok, drop1_ex, ev_ret, ret1_ok, ret1_ex, ev_retN, ev_par, par1_ok, ev_asg, asg1_ok, asg1_ex, asg2_ok, ev_tgN, ev_tgT, ev_tgCons, tgC_ok, ev_tgNil, ev_semOf, fin1_nx, fin1_rt, fin1_ex, gAdd_int, gSub_int, gMul_int, gFdiv_int, gMod_int, gNeg_int, gLt_int, gLe_int, gGt_int, gGe_int, gEq_int, gNe_int, gIs_bb, gIsN_bb, gIs_non, gIs_tn, gIs_in, gIs_on, gIs_sn, gIsN_non, gIsN_tn, gIsN_in, gIsN_on, gIsN_sn, gIx_tup0, gIx_tup1, gIx_tup2, gIx_tup3, gIx_tup4, gLen_tup, gLen_frl, gLen_str, gInt_int, gInt_bl, gAbs_int, gMax_int, gMin_int, gGcd_int, gLcm_int, gList_tup, gTuple_tup, ev_for, for1_ok, for1_ex, forT_ok, forB_nx, forB_ct, forB_bk, forB_rt, forB_ex, ev_it, it1_tup, it1_frl, it1_str, ev_itA, itA1_ok, ev_sl, sl1_ok, sl2_ok, sl3_ok, ev_noPart, ev_part, part1_ok, gSlc_tup, gSlc_str, ev_sto, sto1_ok, sto2_ok, ev_raise, ev_chain, ch1_ok, ch2_ok, ch3_t, ch3_f, kd_int, kd_bl, kd_str, kd_non, kd_tup, isi_int_int, isi_int_bool, isi_int_str, isi_int_tuple, isi_int_list, isi_int_dict, isi_bl_int, isi_bl_bool, isi_bl_str, isi_bl_tuple, isi_bl_list, isi_bl_dict, isi_str_int, isi_str_bool, isi_str_str, isi_str_tuple, isi_str_list, isi_str_dict, isi_non_int, isi_non_bool, isi_non_str, isi_non_tuple, isi_non_list, isi_non_dict, isi_tup_int, isi_tup_bool, isi_tup_str, isi_tup_tuple, isi_tup_list, isi_tup_dict, isi_frl_int, isi_frl_bool, isi_frl_str, isi_frl_tuple, isi_frl_list, isi_frl_dict, gTup_0, gLst_0, gTup_1, gLst_1, gTup_2, gLst_2, gTup_3, gLst_3, gTup_4, gLst_4, gTup_5, gLst_5, gTup_6, gLst_6, gTup_7, gLst_7, gTup_8, gLst_8, gTup_9, gLst_9, List.map_cons, List.map_nil, List.length_cons, List.length_nil, List.replicate_succ, List.replicate_zero, List.cons_append, List.nil_append, List.set_cons_succ, List.set_cons_zero, List.getElem?_cons_succ, List.getElem?_cons_zero, Nat.reduceAdd, Nat.reduceSub, Nat.zero_add, Nat.add_zero, Bool.not_true, Bool.not_false, decide_true, decide_false, ne_eq, not_false_eq_true, not_true_eq_false, Bool.false_eq_true, Bool.true_eq_false, pl]
      exact r
    · have v := nrm_val (p := N * x.2 + x.1 * D') q0
      generalize nP (N * x.2 + x.1 * D') (D' * x.2) = N' at v ⊢
      generalize nQ (N * x.2 + x.1 * D') (D' * x.2) = E' at v ⊢
      refine Int.eq_of_mul_eq_mul_left (a := D') (by omega) ?_
      have v1 : D' * (N' * (q * x.2)) = q * (N' * (D' * x.2)) := by simp only [Int.mul_assoc, Int.mul_comm, Int.mul_left_comm]
      rw [v1, v]
      have v2 : q * ((N * x.2 + x.1 * D') * E') = ((N * q) * x.2 + x.1 * q * D') * E' := by
        rw [← Int.mul_assoc, Int.mul_add]
        simp only [Int.mul_assoc, Int.mul_comm, Int.mul_left_comm]
      rw [v2, e]
      have v3 : D' * ((p * x.2 + x.1 * q) * E') = (p * D' * x.2 + x.1 * q * D') * E' := by
        rw [← Int.mul_assoc, Int.mul_add]
        simp only [Int.mul_assoc, Int.mul_comm, Int.mul_left_comm]
      rw [v3]
theorem total_ok {d : D} {L : List (Int × Int)} (i : it1 (.ok d h) = .ok ⟨L.map frp, chk⟩ h) (k : chk h) (hN : ∀ x, x ∈ L → Num x.1 x.2) (hl : L.length ≤ 3) : ∃ N1 D1 : Int, sem_total [d] h = .ok (fr N1 D1) h ∧ Fr N1 D1 ∧ N1.natAbs < 2 ^ 424 ∧ D1.natAbs < 2 ^ 424 ∧ N1 * (sumF (0, 1) L).2 = (sumF (0, 1) L).1 * D1 := by
  obtain ⟨N1, D1, r, F, c1, c2, rel⟩ := total_loop (v := some d) k L 0 1 1 none hN ⟨by decide, by decide⟩ (by decide) (by decide) (by decide) (by omega)
  refine ⟨N1, D1, ?_, F, bd_mono c1 (by omega), bd_mono c2 (by omega), rel 0 1 (by decide)⟩
  unfold sem_total body_total k_ZERO
  simp -implicitDefEqProofs only [gc_same, gc_ex, gc_no, ev_seq, thenS_nx, thenS_rt, thenS_bk, thenS_ct, thenS_ex, ev_skip, ev_brk, ev_cnt, ev_var, ev_c, ev_un, un1_ok, ev_bin, bin1_ok, bin2_ok, bin1_ex, bin2_ex, ev_tb, tb1_ok, tb1_ex, ev_tru, tr1_bl, tr1_non, tr1_int, tr1_str, tr1_tup, tr1_frl, tr1_ex, ev_nil, ev_cons, cons1_ok, cons2_ok, cons1_ex, cons2_ex, ev_args, arg1_ok, arg1_ex, ev_and, and1_t, and1_f, and1_ex, ev_or, or1_t, or1_f, or1_ex, ev_not, not1_ok, not1_ex, ev_andV, andV1_t, andV1_f, andV1_ex, ev_orV, orV1_t, orV1_f, orV1_ex, ev_notV, notV1_ok, notV1_ex, ev_ifE, ifE1_t, ifE1_f, ev_if, ifS1_t, ifS1_f, ifS1_ex, ev_set, set1_ok, set1_ex, ev_drop, drop1_ok, drop1_ex, ev_ret, ret1_ok, ret1_ex, ev_retN, ev_par, par1_ok, ev_asg, asg1_ok, asg1_ex, asg2_ok, ev_tgN, ev_tgT, ev_tgCons, tgC_ok, ev_tgNil, ev_semOf, fin1_nx, fin1_rt, fin1_ex, gAdd_int, gSub_int, gMul_int, gFdiv_int, gMod_int, gNeg_int, gLt_int, gLe_int, gGt_int, gGe_int, gEq_int, gNe_int, gIs_bb, gIsN_bb, gIs_non, gIs_tn, gIs_in, gIs_on, gIs_sn, gIsN_non, gIsN_tn, gIsN_in, gIsN_on, gIsN_sn, gIx_tup0, gIx_tup1, gIx_tup2, gIx_tup3, gIx_tup4, gLen_tup, gLen_frl, gLen_str, gInt_int, gInt_bl, gAbs_int, gMax_int, gMin_int, gGcd_int, gLcm_int, gList_tup, gTuple_tup, ev_for, for1_ok, for1_ex, forT_ok, forB_nx, forB_ct, forB_bk, forB_rt, forB_ex, ev_it, it1_tup, it1_frl, it1_str, ev_itA, itA1_ok, ev_sl, sl1_ok, sl2_ok, sl3_ok, ev_noPart, ev_part, part1_ok, gSlc_tup, gSlc_str, ev_sto, sto1_ok, sto2_ok, ev_raise, ev_chain, ch1_ok, ch2_ok, ch3_t, ch3_f, kd_int, kd_bl, kd_str, kd_non, kd_tup, isi_int_int, isi_int_bool, isi_int_str, isi_int_tuple, isi_int_list, isi_int_dict, isi_bl_int, isi_bl_bool, isi_bl_str, isi_bl_tuple, isi_bl_list, isi_bl_dict, isi_str_int, isi_str_bool, isi_str_str, isi_str_tuple, isi_str_list, isi_str_dict, isi_non_int, isi_non_bool, isi_non_str, isi_non_tuple, isi_non_list, isi_non_dict, isi_tup_int, isi_tup_bool, isi_tup_str, isi_tup_tuple, isi_tup_list, isi_tup_dict, isi_frl_int, isi_frl_bool, isi_frl_str, isi_frl_tuple, isi_frl_list, isi_frl_dict, gTup_0, gLst_0, gTup_1, gLst_1, gTup_2, gLst_2, gTup_3, gLst_3, gTup_4, gLst_4, gTup_5, gLst_5, gTup_6, gLst_6, gTup_7, gLst_7, gTup_8, gLst_8, gTup_9, gLst_9, List.map_cons, List.map_nil, List.length_cons, List.length_nil, List.replicate_succ, List.replicate_zero, List.cons_append, List.nil_append, List.set_cons_succ, List.set_cons_zero, List.getElem?_cons_succ, List.getElem?_cons_zero, Nat.reduceAdd, Nat.reduceSub, Nat.zero_add, Nat.add_zero, Bool.not_true, Bool.not_false, decide_true, decide_false, ne_eq, not_false_eq_true, not_true_eq_false, Bool.false_eq_true, Bool.true_eq_false, i, tup_fr, r]
end
end Mill
end

section
set_option Elab.async false
set_option linter.all false
set_option maxRecDepth 100000
set_option maxHeartbeats 2000000
set_option exponentiation.threshold 2000
namespace Mill
open PySem DL
open Classical in
theorem gc_some (h h' : DHp) (d : D) : ∃ h'', gc h (.ok d h') = .ok d h'' := by
  rw [gc_ok]
  split
  · exact ⟨_, rfl⟩
  · exact ⟨_, rfl⟩
theorem toPyL_fr (ro : Nat → Option PyData) : ∀ L : List (Int × Int), toPyL ro (L.map frp) = some (L.map fun x => PyData.tuple [.int x.1, .int x.2])
  | [] => rfl
  | x :: L => by
    rw [List.map_cons, toPyL, toPyL_fr ro L]
    unfold frp fr
    simp only [toPyA, toPyL]
    rfl
theorem dep_fr : ∀ L : List (Int × Int), PyData.depthAll (L.map fun x => PyData.tuple [.int x.1, .int x.2]) ≤ 2
  | [] => by simp [PyData.depthAll]
  | x :: L => by
    have := dep_fr L
    simp only [List.map_cons, PyData.depthAll, PyData.depth]
    omega
theorem eqv_fr : ∀ L : List (Int × Int), PyData.eqvAll (L.map fun x => PyData.tuple [.int x.1, .int x.2]) (L.map fun x => PyData.tuple [.int x.1, .int x.2]) = true
  | [] => by simp [PyData.eqvAll]
  | x :: L => by
    have := eqv_fr L
    simp only [List.map_cons, PyData.eqvAll, PyData.eqv, this]
    simp
theorem gEq_rows {h : DHp} {i j : Nat} {L : List (Int × Int)} (a : h[i]? = some (.lst (L.map frp))) (b : h[j]? = some (.lst (L.map frp))) : gEq (.obj i) (.obj j) h = .ok (.bl true) h := by
  refine gEq_some ?_
  have t : ∀ i, h[i]? = some (.lst (L.map frp)) → toPy h (.obj i) = some (.list (L.map fun x => PyData.tuple [.int x.1, .int x.2])) := fun i a => by
    unfold toPy
    rw [toPyA]
    unfold roN
    rw [a]
    show (match toPyL (roN 2 h) (L.map frp) with | some x => some (PyData.list x) | none => none) = _
    rw [toPyL_fr]
  unfold eqD
  rw [t i a, t j b]
  have d := dep_fr L
  show (if _ then _ else _) = _
  rw [if_pos ⟨by rw [PyData.depth]; omega, by rw [PyData.depth]; omega⟩, PyData.eqv, eqv_fr]
theorem cut_ok {P Q R S U V : Int} (A : Num P Q) (B : Num R S) (C : Num U V) (r : Int) (r0 : 0 ≤ r) (r4 : r < 4) :
    ∃ L : List (Int × Int), cutD [fr P Q, fr R S, fr U V] none (some r) = L.map frp ∧ L.length ≤ 3 ∧ ∀ x, x ∈ L → Num x.1 x.2 := by
  rcases (by omega : r = 0 ∨ r = 1 ∨ r = 2 ∨ r = 3) with rfl | rfl | rfl | rfl
  · exact ⟨[], rfl, by decide, fun x m => nomatch m⟩
  · exact ⟨[(P, Q)], rfl, by simp, fun x m => by simp at m; subst m; exact A⟩
  · exact ⟨[(P, Q), (R, S)], rfl, by simp, fun x m => by simp at m; rcases m with rfl | rfl <;> assumption⟩
  · exact ⟨[(P, Q), (R, S), (U, V)], rfl, by simp, fun x m => by simp at m; rcases m with rfl | rfl | rfl <;> assumption⟩
theorem is_nrm {p q : Int} (hq : q ≠ 0) (hp : p.natAbs < 2 ^ 300) (hb : q.natAbs < 2 ^ 300) (h : DHp) : sem__law_is [fr (nP p q) (nQ p q), .int p, .int q] h = .ok (.bl true) h := law_is_nrm hq hp hb (by decide) (by decide) h
theorem sums_ok {P Q R S U V : Int} (A : Num P Q) (B : Num R S) (C : Num U V) (h : DHp) (j : Nat) (o : DO) (hj : h[j]? = some o) (ho : JarO o) : ∃ h', sem__law_sums [fr P Q, fr R S, fr U V, .obj j] h = .ok (.bl true) h' := by
  obtain ⟨jl, je⟩ := List.getElem?_eq_some_iff.mp hj
  have q0 := A.f.pos
  have s0 := B.f.pos
  have qs : Q * S ≠ 0 := Int.ne_of_gt (Int.mul_pos q0 s0)
  have PS : mulOk P S := smOk A.sp B.sq
  have RQ : mulOk R Q := smOk B.sp A.sq
  have QS : mulOk Q S := smOk A.sq B.sq
  have PR : mulOk P R := smOk A.sp B.sp
  have QR : mulOk Q R := smOk A.sq B.sp
  have w1 := plus_ok h A.p A.q B.p B.q (by decide) (by decide) (by decide) qs
  have w2 := minus_ok h A.p A.q B.p B.q (by decide) (by decide) (by decide) qs
  have w3 := times_ok h A.p A.q B.p B.q (by decide) (by decide) (by decide) qs
  have bQS : (Q * S).natAbs < 2 ^ 300 := bd_mono (bd_mul A.q B.q) (by decide)
  have bPS : (P * S).natAbs < 2 ^ 300 := bd_mono (bd_mul A.p B.q) (by decide)
  have bQR : (Q * R).natAbs < 2 ^ 300 := bd_mono (bd_mul A.q B.p) (by decide)
  have bPR : (P * R).natAbs < 2 ^ 300 := bd_mono (bd_mul A.p B.p) (by decide)
  have t1 := is_nrm qs (p := P * S + R * Q) (bd_mono (bd_add (bd_mul A.p B.q) (bd_mul B.p A.q)) (by decide)) bQS h
  have t2 := is_nrm qs (p := P * S - R * Q) (bd_mono (bd_sub (bd_mul A.p B.q) (bd_mul B.p A.q)) (by decide)) bQS h
  have t3 := is_nrm qs (p := P * R) bPR bQS h
  -- the row
  let H : DHp := h ++ [.lst [fr P Q, fr R S, fr U V]]
  have Hj : j < H.length := by simp [H]; omega
  have He : H.set j o = H := by
    have : H[j] = o := by simp [H, List.getElem_append_left jl, je]
    rw [← this, List.set_getElem_self]
  obtain ⟨r, o', tk, r0, r4, _⟩ := take_ok H j o 4 Hj ho (by decide) ⟨by decide, by decide⟩
  rw [He] at tk
  obtain ⟨L, cL, lL, nL⟩ := cut_ok A B C r r0 r4
  let H1 : DHp := H.set j o'
  have g1 : H1[h.length]? = some (.lst [fr P Q, fr R S, fr U V]) := by
    show (H.set j o')[h.length]? = _
    rw [List.getElem?_set_ne (by omega)]
    exact lst_last
  have sl := gSlc_lst (lo := none) (hi := some r) g1
  rw [cL] at sl
  let H2 : DHp := H1 ++ [.lst (L.map frp)]
  let H3 : DHp := H2 ++ [.lst (L.map frp)]
  have k2 : H2[H1.length]? = some (.lst (L.map frp)) := lst_last
  have k3 : H3[H2.length]? = some (.lst (L.map frp)) := lst_last
  have k4 : H3[H1.length]? = some (.lst (L.map frp)) := by
    show (H2 ++ _)[H1.length]? = _
    rw [List.getElem?_append_left (by simp [H2])]; exact k2
  obtain ⟨lp, b1, b2, b3⟩ := sums_loop (h := H2) (a := some (fr P Q)) (b := some (fr R S)) (c := some (fr U V)) (j := some (.obj j)) (row := some (.obj H1.length)) (chk := fun h' => h'[H1.length]? = some (.lst (L.map frp))) k2 L 0 1 1 1 none nL (by decide) (by decide) (by decide) (by decide) (by omega)
  rw [show ((1 : Nat) : Int) = 1 from rfl] at lp
  have ls := gList_lst k2
  have tp := gTuple_lst k4
  have ob := it1_lst k4
  obtain ⟨N1, D1, tt, F, c1, c2, rel⟩ := total_ok (h := H3) ob k4 nL lL
  obtain ⟨N2, D2, tt', F', c1', c2', rel'⟩ := total_ok (h := H3) (d := .tup (L.map frp)) it1_tup trivial nL lL
  have cm := common_ok (h := H3) ob k4 nL lL
  have cm' := common_ok (h := H3) (d := .tup (L.map frp)) it1_tup trivial nL lL
  have z1 := bd_mono b1 (show _ ≤ 424 by omega)
  have z2 := bd_mono b2 (show _ ≤ 424 by omega)
  have is1 := law_is_ok F (bd_mono c2 (by decide)) H3 rel (mulOk_bd c1 z2 (by decide) (by decide) (by decide)) (mulOk_bd z1 c2 (by decide) (by decide) (by decide))
  have is2 := law_is_ok F' (bd_mono c2' (by decide)) H3 rel' (mulOk_bd c1' z2 (by decide) (by decide) (by decide)) (mulOk_bd z1 c2' (by decide) (by decide) (by decide))
  have eqr := gEq_rows (h := H3) k4 k3
  have wi := fun i => law_is_whole_int i H3
  obtain ⟨h'', gg⟩ := gc_some h H3 (.bl true)
  refine ⟨h'', ?_⟩
  have i2 : it1 (.ok (.obj H1.length) H2) = .ok ⟨L.map frp, fun h' => h'[H1.length]? = some (.lst (L.map frp))⟩ H2 := it1_new
  simp only [H3, H2, H1, H] at tk sl lp ls tp tt tt' cm cm' is1 is2 eqr wi gg i2
  unfold sem__law_sums body__law_sums
  by_cases R0 : R = 0
  · subst R0
    simp -implicitDefEqProofs only [gc_same, gc_ex, gc_no, ev_seq, thenS_nx, thenS_rt, thenS_bk, thenS_ct, thenS_ex, ev_skip, ev_brk, ev_cnt, ev_var, ev_c, ev_un, un1_ok, ev_bin, bin1_ok, bin2_ok, bin1_ex, bin2_ex, ev_tb, tb1_ok, tb1_ex, ev_tru, tr1_bl, tr1_non, tr1_int, tr1_str, tr1_tup, tr1_frl, tr1_ex, ev_nil, ev_cons, cons1_ok, cons2_ok, cons1_ex, cons2_ex, ev_args, arg1_ok, arg1_ex, ev_and, and1_t, and1_f, and1_ex, ev_or, or1_t, or1_f, or1_ex, ev_not, not1_ok, not1_ex, ev_andV, andV1_t, andV1_f, andV1_ex, ev_orV, orV1_t, orV1_f, orV1_ex, ev_notV, notV1_ok, notV1_ex, ev_ifE, ifE1_t, ifE1_f, ev_if, ifS1_t, ifS1_f, ifS1_ex, ev_set, set1_ok, set1_ex, ev_drop, drop1_ok, drop1_ex, ev_ret, ret1_ok, ret1_ex, ev_retN, ev_par, par1_ok, ev_asg, asg1_ok, asg1_ex, asg2_ok, ev_tgN, ev_tgT, ev_tgCons, tgC_ok, ev_tgNil, ev_semOf, fin1_nx, fin1_rt, fin1_ex, gAdd_int, gSub_int, gMul_int, gFdiv_int, gMod_int, gNeg_int, gLt_int, gLe_int, gGt_int, gGe_int, gEq_int, gNe_int, gIs_bb, gIsN_bb, gIs_non, gIs_tn, gIs_in, gIs_on, gIs_sn, gIsN_non, gIsN_tn, gIsN_in, gIsN_on, gIsN_sn, gIx_tup0, gIx_tup1, gIx_tup2, gIx_tup3, gIx_tup4, gLen_tup, gLen_frl, gLen_str, gInt_int, gInt_bl, gAbs_int, gMax_int, gMin_int, gGcd_int, gLcm_int, gList_tup, gTuple_tup, ev_for, for1_ok, for1_ex, forT_ok, forB_nx, forB_ct, forB_bk, forB_rt, forB_ex, ev_it, it1_tup, it1_frl, it1_str, ev_itA, itA1_ok, ev_sl, sl1_ok, sl2_ok, sl3_ok, ev_noPart, ev_part, part1_ok, gSlc_tup, gSlc_str, ev_sto, sto1_ok, sto2_ok, ev_raise, ev_chain, ch1_ok, ch2_ok, ch3_t, ch3_f, kd_int, kd_bl, kd_str, kd_non, kd_tup, isi_int_int, isi_int_bool, isi_int_str, isi_int_tuple, isi_int_list, isi_int_dict, isi_bl_int, isi_bl_bool, isi_bl_str, isi_bl_tuple, isi_bl_list, isi_bl_dict, isi_str_int, isi_str_bool, isi_str_str, isi_str_tuple, isi_str_list, isi_str_dict, isi_non_int, isi_non_bool, isi_non_str, isi_non_tuple, isi_non_list, isi_non_dict, isi_tup_int, isi_tup_bool, isi_tup_str, isi_tup_tuple, isi_tup_list, isi_tup_dict, isi_frl_int, isi_frl_bool, isi_frl_str, isi_frl_tuple, isi_frl_list, isi_frl_dict, gTup_0, gLst_0, gTup_1, gLst_1, gTup_2, gLst_2, gTup_3, gLst_3, gTup_4, gLst_4, gTup_5, gLst_5, gTup_6, gLst_6, gTup_7, gLst_7, gTup_8, gLst_8, gTup_9, gLst_9, List.map_cons, List.map_nil, List.length_cons, List.length_nil, List.replicate_succ, List.replicate_zero, List.cons_append, List.nil_append, List.set_cons_succ, List.set_cons_zero, List.getElem?_cons_succ, List.getElem?_cons_zero, Nat.reduceAdd, Nat.reduceSub, Nat.zero_add, Nat.add_zero, Bool.not_true, Bool.not_false, decide_true, decide_false, ne_eq, not_false_eq_true, not_true_eq_false, Bool.false_eq_true, Bool.true_eq_false, tup_fr, gIx_fr0, gIx_fr1, PS, RQ, QS, PR, QR, w1, w2, w3, t1, t2, t3, tk, sl, i2, lp, ls, tp, tt, tt', cm, cm', is1, is2, eqr, wi, gg]
  · have qr : Q * R ≠ 0 := Int.mul_ne_zero (by omega) R0
    have w4 := over_ok h A.p A.q B.p B.q (by decide) (by decide) (by decide) qr R0
    have t4 := is_nrm qr (p := P * S) bPS bQR h
    simp -implicitDefEqProofs only [gc_same, gc_ex, gc_no, ev_seq, thenS_nx, thenS_rt, thenS_bk, thenS_ct, thenS_ex, ev_skip, ev_brk, ev_cnt, ev_var, ev_c, ev_un, un1_ok, ev_bin, bin1_ok, bin2_ok, bin1_ex, bin2_ex, ev_tb, tb1_ok, tb1_ex, ev_tru, tr1_bl, tr1_non, tr1_int, tr1_str, tr1_tup, tr1_frl, tr1_ex, ev_nil, ev_cons, cons1_ok, cons2_ok, cons1_ex, cons2_ex, ev_args, arg1_ok, arg1_ex, ev_and, and1_t, and1_f, and1_ex, ev_or, or1_t, or1_f, or1_ex, ev_not, not1_ok, not1_ex, ev_andV, andV1_t, andV1_f, andV1_ex, ev_orV, orV1_t, orV1_f, orV1_ex, ev_notV, notV1_ok, notV1_ex, ev_ifE, ifE1_t, ifE1_f, ev_if, ifS1_t, ifS1_f, ifS1_ex, ev_set, set1_ok, set1_ex, ev_drop, drop1_ok, drop1_ex, ev_ret, ret1_ok, ret1_ex, ev_retN, ev_par, par1_ok, ev_asg, asg1_ok, asg1_ex, asg2_ok, ev_tgN, ev_tgT, ev_tgCons, tgC_ok, ev_tgNil, ev_semOf, fin1_nx, fin1_rt, fin1_ex, gAdd_int, gSub_int, gMul_int, gFdiv_int, gMod_int, gNeg_int, gLt_int, gLe_int, gGt_int, gGe_int, gEq_int, gNe_int, gIs_bb, gIsN_bb, gIs_non, gIs_tn, gIs_in, gIs_on, gIs_sn, gIsN_non, gIsN_tn, gIsN_in, gIsN_on, gIsN_sn, gIx_tup0, gIx_tup1, gIx_tup2, gIx_tup3, gIx_tup4, gLen_tup, gLen_frl, gLen_str, gInt_int, gInt_bl, gAbs_int, gMax_int, gMin_int, gGcd_int, gLcm_int, gList_tup, gTuple_tup, ev_for, for1_ok, for1_ex, forT_ok, forB_nx, forB_ct, forB_bk, forB_rt, forB_ex, ev_it, it1_tup, it1_frl, it1_str, ev_itA, itA1_ok, ev_sl, sl1_ok, sl2_ok, sl3_ok, ev_noPart, ev_part, part1_ok, gSlc_tup, gSlc_str, ev_sto, sto1_ok, sto2_ok, ev_raise, ev_chain, ch1_ok, ch2_ok, ch3_t, ch3_f, kd_int, kd_bl, kd_str, kd_non, kd_tup, isi_int_int, isi_int_bool, isi_int_str, isi_int_tuple, isi_int_list, isi_int_dict, isi_bl_int, isi_bl_bool, isi_bl_str, isi_bl_tuple, isi_bl_list, isi_bl_dict, isi_str_int, isi_str_bool, isi_str_str, isi_str_tuple, isi_str_list, isi_str_dict, isi_non_int, isi_non_bool, isi_non_str, isi_non_tuple, isi_non_list, isi_non_dict, isi_tup_int, isi_tup_bool, isi_tup_str, isi_tup_tuple, isi_tup_list, isi_tup_dict, isi_frl_int, isi_frl_bool, isi_frl_str, isi_frl_tuple, isi_frl_list, isi_frl_dict, gTup_0, gLst_0, gTup_1, gLst_1, gTup_2, gLst_2, gTup_3, gLst_3, gTup_4, gLst_4, gTup_5, gLst_5, gTup_6, gLst_6, gTup_7, gLst_7, gTup_8, gLst_8, gTup_9, gLst_9, List.map_cons, List.map_nil, List.length_cons, List.length_nil, List.replicate_succ, List.replicate_zero, List.cons_append, List.nil_append, List.set_cons_succ, List.set_cons_zero, List.getElem?_cons_succ, List.getElem?_cons_zero, Nat.reduceAdd, Nat.reduceSub, Nat.zero_add, Nat.add_zero, Bool.not_true, Bool.not_false, decide_true, decide_false, ne_eq, not_false_eq_true, not_true_eq_false, Bool.false_eq_true, Bool.true_eq_false, tup_fr, gIx_fr0, gIx_fr1, PS, RQ, QS, PR, QR, w1, w2, w3, t1, t2, t3, tk, sl, i2, lp, ls, tp, tt, tt', cm, cm', is1, is2, eqr, wi, gg, R0, w4, t4]
end Mill
end

section
set_option Elab.async false
set_option linter.all false
set_option maxRecDepth 100000
set_option maxHeartbeats 2000000
namespace Mill
open PySem DL
theorem num_nrm {p q : Int} (hq : q ≠ 0) (hp : p.natAbs < 2 ^ 140) (hb : q.natAbs < 2 ^ 140) : Num (nP p q) (nQ p q) :=
  ⟨nrm_fr hq, Nat.lt_of_le_of_lt (nP_le _ _) hp, Nat.lt_of_le_of_lt (nQ_le _ _) hb⟩
theorem jar_pair (ns : List Int) (k : Nat) (hk : k < 1000) (h : DHp) : ∃ o p q h', sem__law_jar [.frl (ns.map D.int), .int k] h = .ok (.obj h.length) (h ++ [o]) ∧ sem__law_pair [.obj h.length] (h ++ [o]) = .ok (fr p q) h' ∧ p.natAbs < 2 ^ 140 ∧ q.natAbs < 2 ^ 140 ∧ q ≠ 0 := by
  obtain ⟨o, e, J⟩ := jar_ok ns k hk h
  obtain ⟨p, q, h', e', _, a, b, c⟩ := pair_ok (h ++ [o]) h.length o lst_last J
  exact ⟨o, p, q, h', e, e', a, b, c⟩
theorem law_true (ns : List Int) (_ : ns.length ≤ 63) : ∃ h', sem_law [.frl (ns.map D.int)] [] = .ok (.bl true) h' := by
  obtain ⟨o1, p1, q1, h1, j1, f1, a1, b1, c1⟩ := jar_pair ns 0 (by decide) []
  obtain ⟨o2, p2, q2, h2, j2, f2, a2, b2, c2⟩ := jar_pair ns 1 (by decide) h1
  obtain ⟨o3, p3, q3, h3, j3, f3, a3, b3, c3⟩ := jar_pair ns 2 (by decide) h2
  obtain ⟨o4, j4, J4⟩ := jar_ok ns 3 (by decide) h3
  have n1 := num_nrm c1 a1 b1
  have n2 := num_nrm c2 a2 b2
  have n3 := num_nrm c3 a3 b3
  have r1 := ratio_arith (p := p1) c1 b1 (by decide) (by decide) h3
  have r2 := ratio_arith (p := p2) c2 b2 (by decide) (by decide) h3
  have r3 := ratio_arith (p := p3) c3 b3 (by decide) (by decide) h3
  have l1 := law_lowest_ok p1 q1 h3 c1 (bd_mono b1 (by decide))
  have l2 := law_lowest_ok p2 q2 h3 c2 (bd_mono b2 (by decide))
  have l3 := law_lowest_ok p3 q3 h3 c3 (bd_mono b3 (by decide))
  have i1 := law_is_fraction_ok n1.f (bd_mono n1.q (by decide)) h3
  have i2 := law_is_fraction_ok n2.f (bd_mono n2.q (by decide)) h3
  have i3 := law_is_fraction_ok n3.f (bd_mono n3.q (by decide)) h3
  have z := zero_ok (P := nP p1 q1) (Q := nQ p1 q1) p1 h3
  obtain ⟨h4, s⟩ := sums_ok n1 n2 n3 (h3 ++ [o4]) h3.length o4 lst_last J4
  have d1 := orders_ok (h := h4) n1.f n2.f n1.sp n1.sq n2.sp n2.sq
  have d2 := orders_ok (h := h4) n2.f n3.f n2.sp n2.sq n3.sp n3.sq
  have d3 := ranges_ok n1 n2 n3 h4
  have d4 := kinds_ok n1 q1 h4
  rw [show ((0 : Nat) : Int) = 0 from rfl] at j1
  rw [show ((1 : Nat) : Int) = 1 from rfl] at j2
  rw [show ((2 : Nat) : Int) = 2 from rfl] at j3
  rw [show ((3 : Nat) : Int) = 3 from rfl] at j4
  simp only [List.nil_append, List.length_nil] at f1
  obtain ⟨h5, g⟩ := gc_some [] h4 (.bl true)
  refine ⟨h5, ?_⟩
  unfold sem_law body_law
  simp -implicitDefEqProofs only [gc_same, gc_ex, gc_no, ev_seq, thenS_nx, thenS_rt, thenS_bk, thenS_ct, thenS_ex, ev_skip, ev_brk, ev_cnt, ev_var, ev_c, ev_un, un1_ok, ev_bin, bin1_ok, bin2_ok, bin1_ex, bin2_ex, ev_tb, tb1_ok, tb1_ex, ev_tru, tr1_bl, tr1_non, tr1_int, tr1_str, tr1_tup, tr1_frl, tr1_ex, ev_nil, ev_cons, cons1_ok, cons2_ok, cons1_ex, cons2_ex, ev_args, arg1_ok, arg1_ex, ev_and, and1_t, and1_f, and1_ex, ev_or, or1_t, or1_f, or1_ex, ev_not, not1_ok, not1_ex, ev_andV, andV1_t, andV1_f, andV1_ex, ev_orV, orV1_t, orV1_f, orV1_ex, ev_notV, notV1_ok, notV1_ex, ev_ifE, ifE1_t, ifE1_f, ev_if, ifS1_t, ifS1_f, ifS1_ex, ev_set, set1_ok, set1_ex, ev_drop, drop1_ok, drop1_ex, ev_ret, ret1_ok, ret1_ex, ev_retN, ev_par, par1_ok, ev_asg, asg1_ok, asg1_ex, asg2_ok, ev_tgN, ev_tgT, ev_tgCons, tgC_ok, ev_tgNil, ev_semOf, fin1_nx, fin1_rt, fin1_ex, gAdd_int, gSub_int, gMul_int, gFdiv_int, gMod_int, gNeg_int, gLt_int, gLe_int, gGt_int, gGe_int, gEq_int, gNe_int, gIs_bb, gIsN_bb, gIs_non, gIs_tn, gIs_in, gIs_on, gIs_sn, gIsN_non, gIsN_tn, gIsN_in, gIsN_on, gIsN_sn, gIx_tup0, gIx_tup1, gIx_tup2, gIx_tup3, gIx_tup4, gLen_tup, gLen_frl, gLen_str, gInt_int, gInt_bl, gAbs_int, gMax_int, gMin_int, gGcd_int, gLcm_int, gList_tup, gTuple_tup, ev_for, for1_ok, for1_ex, forT_ok, forB_nx, forB_ct, forB_bk, forB_rt, forB_ex, ev_it, it1_tup, it1_frl, it1_str, ev_itA, itA1_ok, ev_sl, sl1_ok, sl2_ok, sl3_ok, ev_noPart, ev_part, part1_ok, gSlc_tup, gSlc_str, ev_sto, sto1_ok, sto2_ok, ev_raise, ev_chain, ch1_ok, ch2_ok, ch3_t, ch3_f, kd_int, kd_bl, kd_str, kd_non, kd_tup, isi_int_int, isi_int_bool, isi_int_str, isi_int_tuple, isi_int_list, isi_int_dict, isi_bl_int, isi_bl_bool, isi_bl_str, isi_bl_tuple, isi_bl_list, isi_bl_dict, isi_str_int, isi_str_bool, isi_str_str, isi_str_tuple, isi_str_list, isi_str_dict, isi_non_int, isi_non_bool, isi_non_str, isi_non_tuple, isi_non_list, isi_non_dict, isi_tup_int, isi_tup_bool, isi_tup_str, isi_tup_tuple, isi_tup_list, isi_tup_dict, isi_frl_int, isi_frl_bool, isi_frl_str, isi_frl_tuple, isi_frl_list, isi_frl_dict, gTup_0, gLst_0, gTup_1, gLst_1, gTup_2, gLst_2, gTup_3, gLst_3, gTup_4, gLst_4, gTup_5, gLst_5, gTup_6, gLst_6, gTup_7, gLst_7, gTup_8, gLst_8, gTup_9, gLst_9, List.map_cons, List.map_nil, List.length_cons, List.length_nil, List.replicate_succ, List.replicate_zero, List.cons_append, List.nil_append, List.set_cons_succ, List.set_cons_zero, List.getElem?_cons_succ, List.getElem?_cons_zero, Nat.reduceAdd, Nat.reduceSub, Nat.zero_add, Nat.add_zero, Bool.not_true, Bool.not_false, decide_true, decide_false, ne_eq, not_false_eq_true, not_true_eq_false, Bool.false_eq_true, Bool.true_eq_false, j1, f1, j2, f2, j3, f3, j4, gIx_fr0, gIx_fr1, r1, r2, r3, l1, l2, l3, i1, i2, i3, z, s, d1, d2, d3, d4, g, gNe_fr]
end Mill
end

section
set_option Elab.async false
set_option linter.all false
open PySem PySem.W PyProof.Rows
set_option maxRecDepth 100000 in
set_option maxHeartbeats 0 in
theorem PySem.Challenge.cw_millbench_k01_ratio_holds : PySem.Challenge.rw_millbench_k01_ratio.Holds := by
  w_on; o_law; k_head; (case hw => w_witness2)
  k_fill
  refine DL.walk_law (l := PySem.Challenge.rw_millbench_k01_ratio) (k := 7) (sem := Mill.sem_law) rfl rfl ⟨rfl, by decide, by decide⟩ (fun w h Y => PySem.W.kIn_of Y) ?F Mill.law_true
  case F =>
    intro w mg h KX G
    refine' DL.have_it (DL.defT_mk (nm := "_law_jar") (st := Mill.topS 26) (ps := ["script", "k"]) KX G ?a_1 ?l_1 ?c_1 ?k_1 ?b_1) ?rest_1
    (case a_1 => k_is); (case l_1 => k_is); (case c_1 => k_is); (case k_1 => k_is); (case b_1 => exact fun _ _ _ _ _ _ us hl => match us, hl with | [_, _], _ => rfl)
    intro d__law_jar
    refine' DL.have_it (DL.defT_mk (nm := "_law_take") (st := Mill.topS 27) (ps := ["jar", "many"]) KX G ?a_2 ?l_2 ?c_2 ?k_2 ?b_2) ?rest_2
    (case a_2 => k_is); (case l_2 => k_is); (case c_2 => k_is); (case k_2 => k_is); (case b_2 => exact fun _ _ _ _ _ _ us hl => match us, hl with | [_, _], _ => rfl)
    intro d__law_take
    refine' DL.have_it (DL.defT_mk (nm := "_law_number") (st := Mill.topS 32) (ps := ["jar"]) KX G ?a_3 ?l_3 ?c_3 ?k_3 ?b_3) ?rest_3
    (case a_3 => k_is); (case l_3 => k_is); (case c_3 => k_is); (case k_3 => k_is); (case b_3 => exact fun _ _ _ _ _ _ us hl => match us, hl with | [_], _ => rfl)
    intro d__law_number
    refine' DL.have_it (DL.defT_mk (nm := "_law_pair") (st := Mill.topS 33) (ps := ["jar"]) KX G ?a_4 ?l_4 ?c_4 ?k_4 ?b_4) ?rest_4
    (case a_4 => k_is); (case l_4 => k_is); (case c_4 => k_is); (case k_4 => k_is); (case b_4 => exact fun _ _ _ _ _ _ us hl => match us, hl with | [_], _ => rfl)
    intro d__law_pair
    refine' DL.have_it (DL.defT_mk (nm := "fraction") (st := Mill.topS 11) (ps := ["p", "q"]) KX G ?a_5 ?l_5 ?c_5 ?k_5 ?b_5) ?rest_5
    (case a_5 => k_is); (case l_5 => k_is); (case c_5 => k_is); (case k_5 => k_is); (case b_5 => exact fun _ _ _ _ _ _ us hl => match us, hl with | [_, _], _ => rfl)
    intro d_fraction
    refine' DL.have_it (DL.defT_mk (nm := "_law_order") (st := Mill.topS 35) (ps := ["a", "b"]) KX G ?a_6 ?l_6 ?c_6 ?k_6 ?b_6) ?rest_6
    (case a_6 => k_is); (case l_6 => k_is); (case c_6 => k_is); (case k_6 => k_is); (case b_6 => exact fun _ _ _ _ _ _ us hl => match us, hl with | [_, _], _ => rfl)
    intro d__law_order
    refine' DL.have_it (DL.defT_mk (nm := "compare") (st := Mill.topS 16) (ps := ["a", "b"]) KX G ?a_7 ?l_7 ?c_7 ?k_7 ?b_7) ?rest_7
    (case a_7 => k_is); (case l_7 => k_is); (case c_7 => k_is); (case k_7 => k_is); (case b_7 => exact fun _ _ _ _ _ _ us hl => match us, hl with | [_, _], _ => rfl)
    intro d_compare
    refine' DL.have_it (DL.defT_mk (nm := "_law_is_whole") (st := Mill.topS 30) (ps := ["value"]) KX G ?a_8 ?l_8 ?c_8 ?k_8 ?b_8) ?rest_8
    (case a_8 => k_is); (case l_8 => k_is); (case c_8 => k_is); (case k_8 => k_is); (case b_8 => exact fun _ _ _ _ _ _ us hl => match us, hl with | [_], _ => rfl)
    intro d__law_is_whole
    refine' DL.have_it (DL.defT_mk (nm := "lesser") (st := Mill.topS 17) (ps := ["a", "b"]) KX G ?a_9 ?l_9 ?c_9 ?k_9 ?b_9) ?rest_9
    (case a_9 => k_is); (case l_9 => k_is); (case c_9 => k_is); (case k_9 => k_is); (case b_9 => exact fun _ _ _ _ _ _ us hl => match us, hl with | [_, _], _ => rfl)
    intro d_lesser
    refine' DL.have_it (DL.defT_mk (nm := "greater") (st := Mill.topS 18) (ps := ["a", "b"]) KX G ?a_10 ?l_10 ?c_10 ?k_10 ?b_10) ?rest_10
    (case a_10 => k_is); (case l_10 => k_is); (case c_10 => k_is); (case k_10 => k_is); (case b_10 => exact fun _ _ _ _ _ _ us hl => match us, hl with | [_, _], _ => rfl)
    intro d_greater
    refine' DL.have_it (DL.defT_mk (nm := "floor_of") (st := Mill.topS 20) (ps := ["a"]) KX G ?a_11 ?l_11 ?c_11 ?k_11 ?b_11) ?rest_11
    (case a_11 => k_is); (case l_11 => k_is); (case c_11 => k_is); (case k_11 => k_is); (case b_11 => exact fun _ _ _ _ _ _ us hl => match us, hl with | [_], _ => rfl)
    intro d_floor_of
    refine' DL.have_it (DL.defT_mk (nm := "ceiling_of") (st := Mill.topS 21) (ps := ["a"]) KX G ?a_12 ?l_12 ?c_12 ?k_12 ?b_12) ?rest_12
    (case a_12 => k_is); (case l_12 => k_is); (case c_12 => k_is); (case k_12 => k_is); (case b_12 => exact fun _ _ _ _ _ _ us hl => match us, hl with | [_], _ => rfl)
    intro d_ceiling_of
    refine' DL.have_it (DL.defT_mk (nm := "_law_orders") (st := Mill.topS 38) (ps := ["a", "b"]) KX G ?a_13 ?l_13 ?c_13 ?k_13 ?b_13) ?rest_13
    (case a_13 => k_is); (case l_13 => k_is); (case c_13 => k_is); (case k_13 => k_is); (case b_13 => exact fun _ _ _ _ _ _ us hl => match us, hl with | [_, _], _ => rfl)
    intro d__law_orders
    refine' DL.have_it (DL.defT_mk (nm := "in_range") (st := Mill.topS 23) (ps := ["value", "bounds"]) KX G ?a_14 ?l_14 ?c_14 ?k_14 ?b_14) ?rest_14
    (case a_14 => k_is); (case l_14 => k_is); (case c_14 => k_is); (case k_14 => k_is); (case b_14 => exact fun _ _ _ _ _ _ us hl => match us, hl with | [_, _], _ => rfl)
    intro d_in_range
    refine' DL.have_it (DL.defT_mk (nm := "meet") (st := Mill.topS 24) (ps := ["first", "second"]) KX G ?a_15 ?l_15 ?c_15 ?k_15 ?b_15) ?rest_15
    (case a_15 => k_is); (case l_15 => k_is); (case c_15 => k_is); (case k_15 => k_is); (case b_15 => exact fun _ _ _ _ _ _ us hl => match us, hl with | [_, _], _ => rfl)
    intro d_meet
    refine' DL.have_it (DL.defT_mk (nm := "is_whole") (st := Mill.topS 8) (ps := ["value"]) KX G ?a_16 ?l_16 ?c_16 ?k_16 ?b_16) ?rest_16
    (case a_16 => k_is); (case l_16 => k_is); (case c_16 => k_is); (case k_16 => k_is); (case b_16 => exact fun _ _ _ _ _ _ us hl => match us, hl with | [_], _ => rfl)
    intro d_is_whole
    refine' DL.have_it (DL.defT_mk (nm := "is_fraction") (st := Mill.topS 9) (ps := ["value"]) KX G ?a_17 ?l_17 ?c_17 ?k_17 ?b_17) ?rest_17
    (case a_17 => k_is); (case l_17 => k_is); (case c_17 => k_is); (case k_17 => k_is); (case b_17 => exact fun _ _ _ _ _ _ us hl => match us, hl with | [_], _ => rfl)
    intro d_is_fraction
    refine' DL.have_it (DL.defT_mk (nm := "is_range") (st := Mill.topS 10) (ps := ["value"]) KX G ?a_18 ?l_18 ?c_18 ?k_18 ?b_18) ?rest_18
    (case a_18 => k_is); (case l_18 => k_is); (case c_18 => k_is); (case k_18 => k_is); (case b_18 => exact fun _ _ _ _ _ _ us hl => match us, hl with | [_], _ => rfl)
    intro d_is_range
    refine' DL.have_it (DL.defT_mk (nm := "_law_ranges") (st := Mill.topS 39) (ps := ["a", "b", "c"]) KX G ?a_19 ?l_19 ?c_19 ?k_19 ?b_19) ?rest_19
    (case a_19 => k_is); (case l_19 => k_is); (case c_19 => k_is); (case k_19 => k_is); (case b_19 => exact fun _ _ _ _ _ _ us hl => match us, hl with | [_, _, _], _ => rfl)
    intro d__law_ranges
    refine' DL.have_it (DL.defT_mk (nm := "_law_kinds") (st := Mill.topS 40) (ps := ["a", "p"]) KX G ?a_20 ?l_20 ?c_20 ?k_20 ?b_20) ?rest_20
    (case a_20 => k_is); (case l_20 => k_is); (case c_20 => k_is); (case k_20 => k_is); (case b_20 => exact fun _ _ _ _ _ _ us hl => match us, hl with | [_, _], _ => rfl)
    intro d__law_kinds
    refine' DL.have_it (DL.defT_mk (nm := "_law_gcd") (st := Mill.topS 28) (ps := ["a", "b"]) KX G ?a_21 ?l_21 ?c_21 ?k_21 ?b_21) ?rest_21
    (case a_21 => k_is); (case l_21 => k_is); (case c_21 => k_is); (case k_21 => k_is); (case b_21 => exact fun _ _ _ _ _ _ us hl => match us, hl with | [_, _], _ => rfl)
    intro d__law_gcd
    refine' DL.have_it (DL.defT_mk (nm := "_law_lowest") (st := Mill.topS 29) (ps := ["p", "q"]) KX G ?a_22 ?l_22 ?c_22 ?k_22 ?b_22) ?rest_22
    (case a_22 => k_is); (case l_22 => k_is); (case c_22 => k_is); (case k_22 => k_is); (case b_22 => exact fun _ _ _ _ _ _ us hl => match us, hl with | [_, _], _ => rfl)
    intro d__law_lowest
    refine' DL.have_it (DL.defT_mk (nm := "_law_is_fraction") (st := Mill.topS 31) (ps := ["value"]) KX G ?a_23 ?l_23 ?c_23 ?k_23 ?b_23) ?rest_23
    (case a_23 => k_is); (case l_23 => k_is); (case c_23 => k_is); (case k_23 => k_is); (case b_23 => exact fun _ _ _ _ _ _ us hl => match us, hl with | [_], _ => rfl)
    intro d__law_is_fraction
    refine' DL.have_it (DL.defT_mk (nm := "over") (st := Mill.topS 15) (ps := ["a", "b"]) KX G ?a_24 ?l_24 ?c_24 ?k_24 ?b_24) ?rest_24
    (case a_24 => k_is); (case l_24 => k_is); (case c_24 => k_is); (case k_24 => k_is); (case b_24 => exact fun _ _ _ _ _ _ us hl => match us, hl with | [_, _], _ => rfl)
    intro d_over
    refine' DL.have_it (DL.defT_mk (nm := "_law_zero") (st := Mill.topS 36) (ps := ["p", "a"]) KX G ?a_25 ?l_25 ?c_25 ?k_25 ?b_25) ?rest_25
    (case a_25 => k_is); (case l_25 => k_is); (case c_25 => k_is); (case k_25 => k_is); (case b_25 => exact fun _ _ _ _ _ _ us hl => match us, hl with | [_, _], _ => rfl)
    intro d__law_zero
    refine' DL.have_it (DL.defT_mk (nm := "common") (st := Mill.topS 22) (ps := ["values"]) KX G ?a_26 ?l_26 ?c_26 ?k_26 ?b_26) ?rest_26
    (case a_26 => k_is); (case l_26 => k_is); (case c_26 => k_is); (case k_26 => k_is); (case b_26 => exact fun _ _ _ _ _ _ us hl => match us, hl with | [_], _ => rfl)
    intro d_common
    refine' DL.have_it (DL.defT_mk (nm := "_law_is") (st := Mill.topS 34) (ps := ["value", "p", "q"]) KX G ?a_27 ?l_27 ?c_27 ?k_27 ?b_27) ?rest_27
    (case a_27 => k_is); (case l_27 => k_is); (case c_27 => k_is); (case k_27 => k_is); (case b_27 => exact fun _ _ _ _ _ _ us hl => match us, hl with | [_, _, _], _ => rfl)
    intro d__law_is
    refine' DL.have_it (DL.defT_mk (nm := "plus") (st := Mill.topS 12) (ps := ["a", "b"]) KX G ?a_28 ?l_28 ?c_28 ?k_28 ?b_28) ?rest_28
    (case a_28 => k_is); (case l_28 => k_is); (case c_28 => k_is); (case k_28 => k_is); (case b_28 => exact fun _ _ _ _ _ _ us hl => match us, hl with | [_, _], _ => rfl)
    intro d_plus
    refine' DL.have_it (DL.defT_mk (nm := "minus") (st := Mill.topS 13) (ps := ["a", "b"]) KX G ?a_29 ?l_29 ?c_29 ?k_29 ?b_29) ?rest_29
    (case a_29 => k_is); (case l_29 => k_is); (case c_29 => k_is); (case k_29 => k_is); (case b_29 => exact fun _ _ _ _ _ _ us hl => match us, hl with | [_, _], _ => rfl)
    intro d_minus
    refine' DL.have_it (DL.defT_mk (nm := "times") (st := Mill.topS 14) (ps := ["a", "b"]) KX G ?a_30 ?l_30 ?c_30 ?k_30 ?b_30) ?rest_30
    (case a_30 => k_is); (case l_30 => k_is); (case c_30 => k_is); (case k_30 => k_is); (case b_30 => exact fun _ _ _ _ _ _ us hl => match us, hl with | [_, _], _ => rfl)
    intro d_times
    refine' DL.have_it (DL.defT_mk (nm := "total") (st := Mill.topS 19) (ps := ["values"]) KX G ?a_31 ?l_31 ?c_31 ?k_31 ?b_31) ?rest_31
    (case a_31 => k_is); (case l_31 => k_is); (case c_31 => k_is); (case k_31 => k_is); (case b_31 => exact fun _ _ _ _ _ _ us hl => match us, hl with | [_], _ => rfl)
    intro d_total
    refine' DL.have_it (DL.defT_mk (nm := "_law_sums") (st := Mill.topS 37) (ps := ["a", "b", "c", "jar"]) KX G ?a_32 ?l_32 ?c_32 ?k_32 ?b_32) ?rest_32
    (case a_32 => k_is); (case l_32 => k_is); (case c_32 => k_is); (case k_32 => k_is); (case b_32 => exact fun _ _ _ _ _ _ us hl => match us, hl with | [_, _, _, _], _ => rfl)
    intro d__law_sums
    refine' DL.have_it (DL.defT_mk (nm := "law") (st := Mill.topS 41) (ps := ["script"]) KX G ?a_33 ?l_33 ?c_33 ?k_33 ?b_33) ?rest_33
    (case a_33 => k_is); (case l_33 => k_is); (case c_33 => k_is); (case k_33 => k_is); (case b_33 => exact fun _ _ _ _ _ _ us hl => match us, hl with | [_], _ => rfl)
    intro d_law
    refine' DL.have_it (DL.lawT_mk (nm := "law") (st := Mill.topS 41) KX G ?a_34 ?l_34 ?c_34 ?k_34 ?b_34) ?rest_34
    (case a_34 => k_is); (case l_34 => k_is); (case c_34 => k_is); (case k_34 => k_is); (case b_34 => exact fun _ _ _ _ _ _ us hl => match us, hl with | [_], _ => rfl)
    intro L0
    refine' DL.have_it (PySem.W.mg_none_of (n := "ValueError") KX G ?a_35) ?rest_35
    (case a_35 => k_is)
    intro b_ValueError
    refine' DL.have_it (PySem.W.mg_none_of (n := "abs") KX G ?a_36) ?rest_36
    (case a_36 => k_is)
    intro b_abs
    refine' DL.have_it (PySem.W.mg_none_of (n := "bool") KX G ?a_37) ?rest_37
    (case a_37 => k_is)
    intro b_bool
    refine' DL.have_it (PySem.W.mg_of (n := "gcd") (v := .builtin "math.gcd") KX G ?a_38) ?rest_38
    (case a_38 => k_is)
    intro b_gcd
    refine' DL.have_it (PySem.W.mg_none_of (n := "int") KX G ?a_39) ?rest_39
    (case a_39 => k_is)
    intro b_int
    refine' DL.have_it (PySem.W.mg_none_of (n := "isinstance") KX G ?a_40) ?rest_40
    (case a_40 => k_is)
    intro b_isinstance
    refine' DL.have_it (PySem.W.mg_of (n := "lcm") (v := .builtin "math.lcm") KX G ?a_41) ?rest_41
    (case a_41 => k_is)
    intro b_lcm
    refine' DL.have_it (PySem.W.mg_none_of (n := "len") KX G ?a_42) ?rest_42
    (case a_42 => k_is)
    intro b_len
    refine' DL.have_it (PySem.W.mg_none_of (n := "list") KX G ?a_43) ?rest_43
    (case a_43 => k_is)
    intro b_list
    refine' DL.have_it (PySem.W.mg_none_of (n := "range") KX G ?a_44) ?rest_44
    (case a_44 => k_is)
    intro b_range
    refine' DL.have_it (PySem.W.mg_none_of (n := "str") KX G ?a_45) ?rest_45
    (case a_45 => k_is)
    intro b_str
    refine' DL.have_it (PySem.W.mg_none_of (n := "tuple") KX G ?a_46) ?rest_46
    (case a_46 => k_is)
    intro b_tuple
    refine' DL.have_it (DL.kcon_tup (nm := "ZERO") (vs := [.int 0, .int 1]) (ds := [.int 0, .int 1]) KX G ?a_47 ?l_47 ?z_47 ?r_47 ?d_47) ?rest_47
    (case a_47 => k_is); (case l_47 => k_is); (case z_47 => decide); (case r_47 => exact (.cons ⟨_, rfl⟩ (.cons ⟨_, rfl⟩ .nil))); (case d_47 => exact fun _ _ => (.cons (.int _) (.cons (.int _) .nil)))
    intro k_ZERO
    refine' DL.have_it (DL.g_mk (nm := "BadCount") KX G ?a_48) ?rest_48
    (case a_48 => k_is)
    intro gg_BadCount
    refine' DL.have_it (DL.ctOf_eq (PySem.W.mg_of (n := "BadCount") KX G ?a_49)) ?rest_49
    (case a_49 => k_is)
    intro gc_BadCount
    refine' DL.have_it (DL.g_mk (nm := "MillError") KX G ?a_50) ?rest_50
    (case a_50 => k_is)
    intro gg_MillError
    refine' DL.have_it (DL.ctOf_eq (PySem.W.mg_of (n := "MillError") KX G ?a_51)) ?rest_51
    (case a_51 => k_is)
    intro gc_MillError
    refine' DL.have_it (DL.g_mk (nm := "TooLarge") KX G ?a_52) ?rest_52
    (case a_52 => k_is)
    intro gg_TooLarge
    refine' DL.have_it (DL.ctOf_eq (PySem.W.mg_of (n := "TooLarge") KX G ?a_53)) ?rest_53
    (case a_53 => k_is)
    intro gc_TooLarge
    refine' DL.have_it (DL.g_mk (nm := "ZeroDenominator") KX G ?a_54) ?rest_54
    (case a_54 => k_is)
    intro gg_ZeroDenominator
    refine' DL.have_it (DL.ctOf_eq (PySem.W.mg_of (n := "ZeroDenominator") KX G ?a_55)) ?rest_55
    (case a_55 => k_is)
    intro gc_ZeroDenominator
    refine' DL.have_it (DL.exT_mk (nm := "ZeroDenominator") KX G ?a_56 ?cl_56 ?rv_56 ?sa_56 ?ec_56 ?ty_56 ?kc_56 ?ga_56 ?gg_56 ?hd_56 ?ha_56 ?hm_56) ?rest_56
    (case a_56 => k_is); (case cl_56 => k_is); (case rv_56 => decide +kernel); (case sa_56 => k_is); (case ec_56 => k_is); (case ty_56 => k_is); (case kc_56 => k_is); (case ga_56 => k_is); (case gg_56 => k_is); (case hd_56 => k_is); (case ha_56 => k_is); (case hm_56 => k_is)
    intro ge_ZeroDenominator
    refine' DL.have_it (DL.iniT1_mk (PySem.Challenge.rw_millbench_k01_ratio).prog w (x := "number") (st := L2.inClass (Mill.topS 3) 0) ge_ZeroDenominator gc_ZeroDenominator ?iC_57 ?tI_57 ?l_57 ?c_57 ?k_57 ?S_57 ?hB_57 ?nx_57 ?b_57 ?d1_57 ?d2_57 ?sw_57) ?rest_57
    (case iC_57 => k_is); (case tI_57 => k_is); (case l_57 => k_is); (case c_57 => k_is); (case k_57 => k_is); (case S_57 => exact ⟨rfl, rfl, rfl, by decide +kernel, rfl, by decide +kernel, by decide +kernel⟩); (case hB_57 => exact rfl); (case nx_57 => k_is); (case b_57 => exact fun _ _ _ _ _ _ us hl => match us, hl with | [_, _], _ => rfl); (case d1_57 => decide); (case d2_57 => decide); (case sw_57 => (intro _; rfl))
    intro gi_ZeroDenominator
    have xm_MillError := DL.XM.nil (mg := mg) KX (hh := "MillError")
    refine' DL.have_it (DL.XM.cons (b0 := true) xm_MillError gc_ZeroDenominator gc_MillError ?h1_58 ?h2_58 ?h3_58 ?h4_58) ?rest_58
    (case h1_58 => k_is); (case h2_58 => k_is); (case h3_58 => k_is); (case h4_58 => k_is)
    intro xm_MillError
    have xm_ZeroDenominator := DL.XM.nil (mg := mg) KX (hh := "ZeroDenominator")
    refine' DL.have_it (DL.XM.cons (b0 := true) xm_ZeroDenominator gc_ZeroDenominator gc_ZeroDenominator ?h1_59 ?h2_59 ?h3_59 ?h4_59) ?rest_59
    (case h1_59 => k_is); (case h2_59 => k_is); (case h3_59 => k_is); (case h4_59 => k_is)
    intro xm_ZeroDenominator
    have kt_BadCount := DL.KT.nil (mg := mg) KX (cu := .ref (DL.ctOf mg "BadCount"))
    rw [gc_BadCount] at kt_BadCount
    refine' DL.have_it (DL.KT.cons (b0 := false) kt_BadCount ge_ZeroDenominator gc_ZeroDenominator ?h4_60) ?rest_60
    (case h4_60 => first | k_is | kit_is)
    intro kt_BadCount
    rw [← gc_BadCount] at kt_BadCount
    have kt_TooLarge := DL.KT.nil (mg := mg) KX (cu := .ref (DL.ctOf mg "TooLarge"))
    rw [gc_TooLarge] at kt_TooLarge
    refine' DL.have_it (DL.KT.cons (b0 := false) kt_TooLarge ge_ZeroDenominator gc_ZeroDenominator ?h4_61) ?rest_61
    (case h4_61 => first | k_is | kit_is)
    intro kt_TooLarge
    rw [← gc_TooLarge] at kt_TooLarge
    have kt_ValueError := DL.KT.nil (mg := mg) KX (cu := .type "ValueError")
    refine' DL.have_it (DL.KT.cons (b0 := true) kt_ValueError ge_ZeroDenominator gc_ZeroDenominator ?h4_62) ?rest_62
    (case h4_62 => first | k_is | kit_is)
    intro kt_ValueError
    have kt_ZeroDenominator := DL.KT.nil (mg := mg) KX (cu := .ref (DL.ctOf mg "ZeroDenominator"))
    rw [gc_ZeroDenominator] at kt_ZeroDenominator
    refine' DL.have_it (DL.KT.cons (b0 := true) kt_ZeroDenominator ge_ZeroDenominator gc_ZeroDenominator ?h4_63) ?rest_63
    (case h4_63 => first | k_is | kit_is)
    intro kt_ZeroDenominator
    rw [← gc_ZeroDenominator] at kt_ZeroDenominator
    have xf_number_ZeroDenominator := DL.XF.nil (mg := mg) KX (f := "number")
    refine' DL.have_it (DL.XF.cons xf_number_ZeroDenominator ge_ZeroDenominator gc_ZeroDenominator ?h4_64) ?rest_64
    (case h4_64 => k_is)
    intro xf_number_ZeroDenominator
    refine' DL.have_it (DL.hn_mk KX ?a_65) ?rest_65
    (case a_65 => k_is)
    intro hn
    refine' DL.have_it (DL.ht_mk KX ?a_66) ?rest_66
    (case a_66 => k_is)
    intro ht
    obtain ⟨fd, f, F1, m1, b1⟩ := L0
    exact ⟨⟨fd, f, _, F1, m1, b1⟩, fun base => Mill.ok_law { d__law_jar := d__law_jar, d__law_take := d__law_take, d__law_number := d__law_number, d__law_pair := d__law_pair, d_fraction := d_fraction, d__law_order := d__law_order, d_compare := d_compare, d__law_is_whole := d__law_is_whole, d_lesser := d_lesser, d_greater := d_greater, d_floor_of := d_floor_of, d_ceiling_of := d_ceiling_of, d__law_orders := d__law_orders, d_in_range := d_in_range, d_meet := d_meet, d_is_whole := d_is_whole, d_is_fraction := d_is_fraction, d_is_range := d_is_range, d__law_ranges := d__law_ranges, d__law_kinds := d__law_kinds, d__law_gcd := d__law_gcd, d__law_lowest := d__law_lowest, d__law_is_fraction := d__law_is_fraction, d_over := d_over, d__law_zero := d__law_zero, d_common := d_common, d__law_is := d__law_is, d_plus := d_plus, d_minus := d_minus, d_times := d_times, d_total := d_total, d__law_sums := d__law_sums, d_law := d_law, b_ValueError := b_ValueError, b_abs := b_abs, b_bool := b_bool, b_gcd := b_gcd, b_int := b_int, b_isinstance := b_isinstance, b_lcm := b_lcm, b_len := b_len, b_list := b_list, b_range := b_range, b_str := b_str, b_tuple := b_tuple, k_ZERO := k_ZERO, g_BadCount := gg_BadCount, g_MillError := gg_MillError, g_TooLarge := gg_TooLarge, g_ZeroDenominator := gg_ZeroDenominator, e_ZeroDenominator := ge_ZeroDenominator, i_ZeroDenominator := gi_ZeroDenominator base, xm_MillError := xm_MillError, xm_ZeroDenominator := xm_ZeroDenominator, kt_BadCount := kt_BadCount, kt_TooLarge := kt_TooLarge, kt_ValueError := kt_ValueError, kt_ZeroDenominator := kt_ZeroDenominator, xf_number_ZeroDenominator := xf_number_ZeroDenominator, hn := hn, ht := ht }⟩
end
