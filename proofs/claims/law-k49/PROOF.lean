import PyProof.Rows.All
import Wide.All
import OpenK.AllK
import Wide.FinOn
import HandS.ForMost
import HandS.Codes
import HandS.More
import HandS.IsInst
import HandS.Style
import PySem.PyData
import HandS.HeadHook4
import HandS.CallLocal
import HandS.Defaults
import HandS.HeadEnd
import PySem.Challenge.RW_samepage_k49_whole_nothing_smaller_works
import HandS.Flow
import HandS.NoneIn
import KE.SortData
import KE.KStateDown
import HandS.Head0
import HandS.Head1
import HandS.Head2
set_option Elab.async false
set_option linter.all false
set_option maxRecDepth 100000
/-! K49Base: a data layer over HandS: values read as PyData in a part G of the abstract heap H; readings as big steps over environments of data. -/
namespace K49
open PySem L2
abbrev D := PyData
abbrev Slots := List (Option V)

/-! ### heaps -/
def Ex (G H : Hp) : Prop := ∀ a o, G a = some o → H a = some o
theorem Ex.refl (G : Hp) : Ex G G := fun _ _ h => h
theorem Ex.trans {A B C : Hp} (x : Ex A B) (y : Ex B C) : Ex A C := fun a o h => y a o (x a o h)
theorem Ex.non_ {G H : Hp} (e : Ex G H) {a : Addr} (h : H a = none) : G a = none := by
  cases q : G a with
  | none => rfl
  | some o => rw [e a o q] at h; cases h
theorem Ex.lay {G H : Hp} (e : Ex G H) {a : Addr} {o : HO} (h : G a = none) : Ex G (upd H a o) := fun b u q => by
  rw [upd_ne (ne_of_none q h)]; exact e b u q
theorem Ex.new {G : Hp} {a : Addr} {o : HO} (h : G a = none) : Ex G (upd G a o) := (Ex.refl G).lay h
theorem Ex.both {G H : Hp} (e : Ex G H) {a : Addr} {o : HO} : Ex (upd G a o) (upd H a o) := fun b u q => by
  by_cases hb : b = a
  · subst hb; rw [upd_same] at q ⊢; exact q
  · rw [upd_ne hb] at q ⊢; exact e b u q
theorem Ex.seal {G H : Hp} (e : Ex G H) {a : Addr} {o : HO} (h : H a = some o) : Ex (upd G a o) H := fun b u q => by
  by_cases hb : b = a
  · subst hb; rw [upd_same] at q; rw [h]; exact q
  · rw [upd_ne hb] at q; exact e b u q

/-- the data part G of H grows to G' of H'; what is new in G' was not there in H -/
structure Grow (G H G' H' : Hp) : Prop where
  g : Ex G G'
  h : Ex H H'
  gh : Ex G' H'
  nw : ∀ a, G a = none → G' a ≠ none → H a = none
theorem Grow.refl {G H : Hp} (e : Ex G H) : Grow G H G H := ⟨Ex.refl G, Ex.refl H, e, fun a h n => absurd h n⟩
theorem Grow.trans {G H G1 H1 G2 H2 : Hp} (x : Grow G H G1 H1) (y : Grow G1 H1 G2 H2) : Grow G H G2 H2 :=
  ⟨x.g.trans y.g, x.h.trans y.h, y.gh, fun a h n => by
    cases q : G1 a with
    | none => exact x.h.non_ (y.nw a q n)
    | some o => exact x.nw a h (by rw [q]; exact fun z => nomatch z)⟩
theorem Grow.lay {G H : Hp} (e : Ex G H) {a : Addr} (o : HO) (h : H a = none) : Grow G H (upd G a o) (upd H a o) :=
  ⟨Ex.new (e.non_ h), Ex.new h, e.both, fun b hb n => by
    by_cases q : b = a
    · rw [q]; exact h
    · rw [upd_ne q] at n; exact absurd hb n⟩
theorem Grow.ext {G H G' H' H'' : Hp} (x : Grow G H G' H') (e : Ex H' H'') : Grow G H G' H'' := ⟨x.g, x.h.trans e, x.gh.trans e, x.nw⟩
/-- an object of one's own, not among the data, changes -/
theorem Grow.mut {G H G' H' : Hp} (x : Grow G H G' H') {a : Addr} {o : HO} (hg : G' a = none) (hh : H a = none) : Grow G H G' (upd H' a o) :=
  ⟨x.g, x.h.lay hh, x.gh.lay hg, x.nw⟩
/-- it becomes data -/
theorem Grow.seal {G H G' H' : Hp} (x : Grow G H G' H') {a : Addr} {o : HO} (h1 : H' a = some o) (hg : G' a = none) (hh : H a = none) : Grow G H (upd G' a o) H' :=
  ⟨x.g.lay (x.g.non_ hg), x.h, x.gh.seal h1, fun b hb n => by
    by_cases q : b = a
    · rw [q]; exact hh
    · rw [upd_ne q] at n; exact x.nw b hb n⟩

/-! ### data -/
mutual
/-- v reads as the data d; lists stand plain in G, tuples anywhere -/
inductive Is (K : PySem.W.Frag) (G : Hp) : V → PyData → Prop
  | non : Is K G .non .none
  | bl (b : Bool) : Is K G (.bl b) (.bool b)
  | int (i : Int) : Is K G (.int i) (.int i)
  | str (x : Str) : Is K G (.str x) (.str x)
  | lst {a : Addr} {xs : List V} {ds : List PyData} : G a = some (.lst xs) → IsL K G xs ds → Is K G (.ref a) (.list ds)
  | tup {a : Addr} {xs : List V} {ds : List PyData} : SqT K G a xs → IsL K G xs ds → Is K G (.ref a) (.tuple ds)
inductive IsL (K : PySem.W.Frag) (G : Hp) : List V → List PyData → Prop
  | nil : IsL K G [] []
  | cons {v : V} {vs : List V} {d : PyData} {ds : List PyData} : Is K G v d → IsL K G vs ds → IsL K G (v :: vs) (d :: ds)
end
theorem ex_rd {G H : Hp} {a : Addr} {u : HO} (e : Ex G H) (h : Rd G a u) : Rd H a u := by
  rcases h with h | ⟨o, h⟩
  · exact .inl (e _ _ h)
  · exact .inr ⟨o, e _ _ h⟩
theorem ex_t {K : PySem.W.Frag} {G H : Hp} {a : Addr} {xs : List V} (e : Ex G H) (h : SqT K G a xs) : SqT K H a xs := by
  rcases h with h | h
  · exact .inl (ex_rd e h)
  · exact .inr h
theorem ex_l {K : PySem.W.Frag} {G H : Hp} {a : Addr} {xs : List V} (e : Ex G H) (h : SqL K G a xs) : SqL K H a xs := by
  rcases h with h | h
  · exact .inl (ex_rd e h)
  · exact .inr h
section
variable {K : PySem.W.Frag} {G H : Hp}
mutual
theorem Is.mono (e : Ex G H) : ∀ (d : PyData) (v : V), Is K G v d → Is K H v d
  | .none, _, h => by cases h; exact .non
  | .bool b, _, h => by cases h; exact .bl b
  | .int i, _, h => by cases h; exact .int i
  | .str x, _, h => by cases h; exact .str x
  | .list ds, _, h => by
    cases h with
    | lst h1 h2 => exact .lst (e _ _ h1) (IsL.mono e ds _ h2)
  | .tuple ds, _, h => by
    cases h with
    | tup h1 h2 => exact .tup (ex_t e h1) (IsL.mono e ds _ h2)
  | .dict _, _, h => by cases h
theorem IsL.mono (e : Ex G H) : ∀ (ds : List PyData) (vs : List V), IsL K G vs ds → IsL K H vs ds
  | [], _, h => by cases h; exact .nil
  | d :: ds, _, h => by
    cases h with
    | cons h1 h2 => exact .cons (Is.mono e d _ h1) (IsL.mono e ds _ h2)
end
mutual
theorem Is.dp (e : Ex G H) : ∀ (d : PyData) (v : V), Is K G v d → Dp K H v d
  | .none, _, h => by cases h; exact .non
  | .bool b, _, h => by cases h; exact .bl b
  | .int i, _, h => by cases h; exact .int i
  | .str x, _, h => by cases h; exact .str x
  | .list ds, _, h => by
    cases h with
    | lst h1 h2 => exact .lst (SqL.of (e _ _ h1)) (IsL.dp e ds _ h2)
  | .tuple ds, _, h => by
    cases h with
    | tup h1 h2 => exact .tup (ex_t e h1) (IsL.dp e ds _ h2)
  | .dict _, _, h => by cases h
theorem IsL.dp (e : Ex G H) : ∀ (ds : List PyData) (vs : List V), IsL K G vs ds → DpAll K H vs ds
  | [], _, h => by cases h; exact .nil
  | d :: ds, _, h => by
    cases h with
    | cons h1 h2 => exact .cons (Is.dp e d _ h1) (IsL.dp e ds _ h2)
end
theorem IsL.len : ∀ {vs : List V} {ds : List PyData}, IsL K G vs ds → vs.length = ds.length
  | _, [], h => by cases h; rfl
  | _, d :: ds, h => by
    cases h with
    | cons h1 h2 => rw [List.length_cons, List.length_cons, IsL.len h2]
theorem IsL.get : ∀ {vs : List V} {ds : List PyData} {i : Nat} {d : PyData}, IsL K G vs ds → ds[i]? = some d → ∃ v, vs[i]? = some v ∧ Is K G v d
  | _, [], i, d, h, e => by simp at e
  | _, d :: ds, i, d', h, e => by
    cases h with
    | cons h1 h2 =>
      cases i with
      | zero => simp at e; subst e; exact ⟨_, rfl, h1⟩
      | succ i => exact IsL.get (i := i) h2 (by simpa using e)
theorem IsL.app : ∀ {vs ws : List V} {ds es : List PyData}, IsL K G vs ds → IsL K G ws es → IsL K G (vs ++ ws) (ds ++ es)
  | _, _, [], _, h, h' => by cases h; exact h'
  | _, _, d :: ds, _, h, h' => by
    cases h with
    | cons h1 h2 => exact .cons h1 (IsL.app h2 h')
theorem IsL.one {v : V} {d : PyData} (h : Is K G v d) : IsL K G [v] [d] := .cons h .nil
theorem Is.up {H : Hp} {v : V} {d : PyData} (h : Is K G v d) (e : Ex G H) : Is K H v d := Is.mono e d v h
theorem IsL.up {H : Hp} {vs : List V} {ds : List PyData} (h : IsL K G vs ds) (e : Ex G H) : IsL K H vs ds := IsL.mono e ds vs h
theorem Is.str_ {v : V} {x : Str} (h : Is K G v (.str x)) : v = .str x := by cases h; rfl
theorem Is.int_ {v : V} {i : Int} (h : Is K G v (.int i)) : v = .int i := by cases h; rfl
theorem Is.bl_ {v : V} {b : Bool} (h : Is K G v (.bool b)) : v = .bl b := by cases h; rfl
theorem Is.non_ {v : V} (h : Is K G v .none) : v = .non := by cases h; rfl
end

/-! ### environments -/
inductive EnvI (K : PySem.W.Frag) (G : Hp) : Slots → List (Option PyData) → Prop
  | nil : EnvI K G [] []
  | any (o : Option V) {σ : Slots} {ds : List (Option PyData)} : EnvI K G σ ds → EnvI K G (o :: σ) (none :: ds)
  | val {v : V} {d : PyData} {σ : Slots} {ds : List (Option PyData)} : Is K G v d → EnvI K G σ ds → EnvI K G (some v :: σ) (some d :: ds)
section
variable {K : PySem.W.Frag} {G H : Hp} {σ : Slots} {ds : List (Option PyData)}
theorem EnvI.mono (e : Ex G H) (h : EnvI K G σ ds) : EnvI K H σ ds := by
  induction h with
  | nil => exact .nil
  | any o _ ih => exact .any o ih
  | val r _ ih => exact .val (r.up e) ih
theorem EnvI.len (h : EnvI K G σ ds) : σ.length = ds.length := by
  induction h with
  | nil => rfl
  | any o _ ih => simp [ih]
  | val r _ ih => simp [ih]
theorem EnvI.get (h : EnvI K G σ ds) : ∀ {i : Nat} {d : PyData}, ds[i]? = some (some d) → ∃ v, σ[i]? = some (some v) ∧ Is K G v d := by
  induction h with
  | nil => intro i d e; simp at e
  | any o _ ih =>
    intro i d e
    cases i with
    | zero => simp at e
    | succ i => simpa using ih (i := i) (by simpa using e)
  | val r _ ih =>
    intro i d e
    cases i with
    | zero => simp at e; subst e; exact ⟨_, rfl, r⟩
    | succ i => simpa using ih (i := i) (by simpa using e)
theorem EnvI.set (h : EnvI K G σ ds) {v : V} {d : PyData} (r : Is K G v d) : ∀ i, EnvI K G (σ.set i (some v)) (ds.set i (some d)) := by
  induction h with
  | nil => intro i; exact .nil
  | any o h' ih =>
    intro i
    cases i with
    | zero => exact .val r h'
    | succ i => exact .any o (ih i)
  | val q h' ih =>
    intro i
    cases i with
    | zero => exact .val r h'
    | succ i => exact .val q (ih i)
theorem EnvI.off (h : EnvI K G σ ds) (o : Option V) : ∀ i, EnvI K G (σ.set i o) (ds.set i none) := by
  induction h with
  | nil => intro i; exact .nil
  | any o' h' ih =>
    intro i
    cases i with
    | zero => exact .any o h'
    | succ i => exact .any o' (ih i)
  | val q h' ih =>
    intro i
    cases i with
    | zero => exact .any o h'
    | succ i => exact .val q (ih i)
/-- less is said -/
inductive Wk : List (Option PyData) → List (Option PyData) → Prop
  | nil : Wk [] []
  | same (o : Option PyData) {ds es : List (Option PyData)} : Wk ds es → Wk (o :: ds) (o :: es)
  | any (o : Option PyData) {ds es : List (Option PyData)} : Wk ds es → Wk (o :: ds) (none :: es)
theorem Wk.refl : ∀ ds, Wk ds ds
  | [] => .nil
  | o :: ds => .same o (Wk.refl ds)
theorem EnvI.weak {es : List (Option PyData)} (w : Wk ds es) : ∀ {σ : Slots}, EnvI K G σ ds → EnvI K G σ es := by
  induction w with
  | nil => intro σ h; exact h
  | same o _ ih =>
    intro σ h
    cases h with
    | any o' h' => exact .any _ (ih h')
    | val r h' => exact .val r (ih h')
  | any o _ ih =>
    intro σ h
    cases h with
    | any o' h' => exact .any _ (ih h')
    | val r h' => exact .any _ (ih h')
end
def wipeD (ds : List (Option PyData)) : List Nat → List (Option PyData)
  | [] => ds
  | v :: vs => (wipeD ds vs).set v none
theorem EnvI.wipe {K : PySem.W.Frag} {G : Hp} {σ : Slots} {ds : List (Option PyData)} (h : EnvI K G σ ds) : ∀ vs, EnvI K G (L2.wipe σ vs) (wipeD ds vs)
  | [] => h
  | v :: vs => (h.wipe vs).off none v
theorem wipe_get (σ : Slots) (k : Nat) : ∀ vs : List Nat, (L2.wipe σ vs)[k]? = if k ∈ vs ∧ k < σ.length then some none else σ[k]?
  | [] => by simp [L2.wipe]
  | v :: vs => by
    unfold L2.wipe
    rw [List.getElem?_set, wipe_get σ k vs, wipe_length]
    by_cases h1 : v = k
    · subst h1
      by_cases h2 : v < σ.length
      · simp [h2]
      · simp [h2]
    · have h1' : ¬ k = v := fun e => h1 e.symm
      simp [h1, h1']
theorem wipe_eq {σ σ' : Slots} {vs : List Nat} (hl : σ'.length = σ.length) (h : ∀ k, k ∉ vs → σ'[k]? = (L2.wipe σ vs)[k]?) : L2.wipe σ' vs = L2.wipe σ vs := by
  apply List.ext_getElem?
  intro k
  rw [wipe_get σ' k vs, hl]
  by_cases hk : k ∈ vs
  · rw [wipe_get σ k vs]
    by_cases hk2 : k < σ.length
    · rw [if_pos ⟨hk, hk2⟩, if_pos ⟨hk, hk2⟩]
    · rw [if_neg (fun z => hk2 z.2), if_neg (fun z => hk2 z.2), List.getElem?_eq_none (by omega), List.getElem?_eq_none (by omega)]
  · rw [if_neg (fun z => hk z.1)]
    exact h k hk

/-! ### expressions -/
def Ev (K : PySem.W.Frag) (te : TE) (ds : List (Option PyData)) (d : PyData) : Prop :=
  ∀ (σ : Slots) (G H : Hp), Ex G H → EnvI K G σ ds → ∀ Q : VK, (∀ v G' H', Grow G H G' H' → Is K G' v d → Q v H') → te σ H Q
def EvT (K : PySem.W.Frag) (tt : TT) (ds : List (Option PyData)) (b : Bool) : Prop :=
  ∀ (σ : Slots) (G H : Hp), Ex G H → EnvI K G σ ds → ∀ Q : Bool → Hp → Prop, (∀ G' H', Grow G H G' H' → Q b H') → tt σ H Q
def EvA (K : PySem.W.Frag) (ta : TA) (ds : List (Option PyData)) (l : List PyData) : Prop :=
  ∀ (σ : Slots) (G H : Hp), Ex G H → EnvI K G σ ds → ∀ Q : List V → Hp → Prop, (∀ vs G' H', Grow G H G' H' → IsL K G' vs l → Q vs H') → ta σ H Q
/-- an optional int (of a slice) -/
def EvO (K : PySem.W.Frag) (to : TO) (ds : List (Option PyData)) (o : Option Int) : Prop :=
  ∀ (σ : Slots) (G H : Hp), Ex G H → EnvI K G σ ds → ∀ Q : Option Int → Hp → Prop, (∀ G' H', Grow G H G' H' → Q o H') → to σ H Q
/-- an operation on data -/
def RV (K : PySem.W.Frag) (r : R2) (x y z : PyData) : Prop :=
  ∀ (G H : Hp) (v w : V), Ex G H → Is K G v x → Is K G w y → ∀ Q : VK, (∀ u G' H', Grow G H G' H' → Is K G' u z → Q u H') → r v w H Q
/-- a call of a built-in on data -/
def RC (K : PySem.W.Frag) (r : List V → Hp → VK → Prop) (l : List PyData) (z : PyData) : Prop :=
  ∀ (G H : Hp) (vs : List V), Ex G H → IsL K G vs l → ∀ Q : VK, (∀ u G' H', Grow G H G' H' → Is K G' u z → Q u H') → r vs H Q
section
variable {K : PySem.W.Frag} {ds : List (Option PyData)} {ta tb te tx : TE} {x y z d : PyData} {t u : TT} {r : R2}
theorem sz {n : Nat} (h : n ≤ 2000000) : n ≤ sizeLine := Nat.le_trans h (by decide)
theorem szl {n : Nat} (h : n ≤ 2000000) : n < sizeLine := Nat.lt_of_le_of_lt h (by decide)
theorem ev_is (h : Ev K te ds x) (e : x = y) : Ev K te ds y := e ▸ h
theorem evt_is {b c : Bool} (h : EvT K t ds b) (e : b = c) : EvT K t ds c := e ▸ h
theorem ev_var {i : Nat} (h : ds[i]? = some (some d)) : Ev K (tVar i) ds d := fun σ G H e en Q q => by
  obtain ⟨v, h1, h2⟩ := en.get h
  exact ⟨v, h1, q v G H (.refl e) h2⟩
theorem ev_c {v : V} (h : ∀ G, Is K G v d) : Ev K (tC v) ds d := fun σ G H e _ Q q => q v G H (.refl e) (h G)
theorem ev_str {x : Str} : Ev K (tC (.str x)) ds (.str x) := ev_c fun _ => .str x
theorem ev_int {i : Int} : Ev K (tC (.int i)) ds (.int i) := ev_c fun _ => .int i
theorem ev_bl {b : Bool} : Ev K (tC (.bl b)) ds (.bool b) := ev_c fun _ => .bl b
theorem ev_non : Ev K (tC .non) ds .none := ev_c fun _ => .non
theorem ea_nil : EvA K tNil ds [] := fun σ G H e _ Q q => q [] G H (.refl e) .nil
theorem ea_cons {tr : TA} {l : List PyData} (h : Ev K te ds d) (hr : EvA K tr ds l) : EvA K (tCons te tr) ds (d :: l) := fun σ G H e en Q q =>
  h σ G H e en _ fun v G1 H1 g1 r1 => hr σ G1 H1 g1.gh (en.mono g1.g) _ fun vs G2 H2 g2 r2 => q _ G2 H2 (g1.trans g2) (.cons (r1.up g2.g) r2)
theorem ev_tup {ta : TA} {l : List PyData} (h : EvA K ta ds l) (hl : l.length ≤ 1000 := by exact Nat.le_of_ble_eq_true rfl) : Ev K (tTup ta) ds (.tuple l) := fun σ G H e en Q q =>
  h σ G H e en _ fun vs G1 H1 g1 r1 => ⟨by rw [r1.len]; exact sz (by omega), fun p hp =>
    q _ _ _ (g1.trans (.lay g1.gh _ hp)) (.tup (.of upd_same) (r1.up (Ex.new (g1.gh.non_ hp))))⟩
theorem ev_lst {ta : TA} {l : List PyData} (h : EvA K ta ds l) (hl : l.length ≤ 1000 := by exact Nat.le_of_ble_eq_true rfl) : Ev K (tLst ta) ds (.list l) := fun σ G H e en Q q =>
  h σ G H e en _ fun vs G1 H1 g1 r1 => ⟨by rw [r1.len]; exact sz (by omega), fun p hp =>
    q _ _ _ (g1.trans (.lay g1.gh _ hp)) (.lst upd_same (r1.up (Ex.new (g1.gh.non_ hp))))⟩
theorem ev_op (ha : Ev K ta ds x) (hb : Ev K tb ds y) (hr : RV K r x y z) : Ev K (tOp r ta tb) ds z := fun σ G H e en Q q =>
  ha σ G H e en _ fun v G1 H1 g1 r1 => hb σ G1 H1 g1.gh (en.mono g1.g) _ fun w G2 H2 g2 r2 => hr G2 H2 v w g2.gh (r1.up g2.g) r2 Q fun u G3 H3 g3 r3 => q u G3 H3 ((g1.trans g2).trans g3) r3
theorem ev_cb {r : List V → Hp → VK → Prop} {ta : TA} {l : List PyData} (h : EvA K ta ds l) (hr : RC K r l z) : Ev K (tCB r ta) ds z := fun σ G H e en Q q =>
  h σ G H e en _ fun vs G1 H1 g1 r1 => hr G1 H1 vs g1.gh r1 Q fun u G2 H2 g2 r2 => q u G2 H2 (g1.trans g2) r2
/-- a pure operation on values -/
theorem rv_pure {f : V} (hz : ∀ G, Is K G f z) (h : ∀ G H v w, Is K G v x → Is K G w y → ∀ Q : VK, Q f H → r v w H Q) : RV K r x y z := fun G H v w e hv hw Q q => h G H v w hv hw Q (q f G H (.refl e) (hz G))
theorem rv_eqS {a b : Str} : RV K rEq (.str a) (.str b) (.bool (decide (a = b))) := rv_pure (f := .bl (decide (a = b))) (fun _ => .bl _) fun G H v w hv hw Q q => by
  rw [hv.str_, hw.str_]
  refine ⟨rfl, ?_⟩
  have e : decide (V.str a = V.str b) = decide (a = b) := by
    by_cases h : a = b
    · rw [decide_eq_true h, decide_eq_true (congrArg V.str h)]
    · rw [decide_eq_false h, decide_eq_false (fun z => h (V.str.inj z))]
  rw [e]; exact q
theorem rv_neS {a b : Str} : RV K rNe (.str a) (.str b) (.bool (!decide (a = b))) := rv_pure (f := .bl (!decide (a = b))) (fun _ => .bl _) fun G H v w hv hw Q q => by
  rw [hv.str_, hw.str_]
  refine ⟨rfl, ?_⟩
  have e : decide (V.str a = V.str b) = decide (a = b) := by
    by_cases h : a = b
    · rw [decide_eq_true h, decide_eq_true (congrArg V.str h)]
    · rw [decide_eq_false h, decide_eq_false (fun z => h (V.str.inj z))]
  rw [e]; exact q
theorem rv_eqI {a b : Int} : RV K rEq (.int a) (.int b) (.bool (decide (a = b))) := rv_pure (f := .bl (decide (a = b))) (fun _ => .bl _) fun G H v w hv hw Q q => by
  rw [hv.int_, hw.int_]
  refine ⟨rfl, ?_⟩
  have e : decide (V.int a = V.int b) = decide (a = b) := by
    by_cases h : a = b
    · rw [decide_eq_true h, decide_eq_true (congrArg V.int h)]
    · rw [decide_eq_false h, decide_eq_false (fun z => h (V.int.inj z))]
  rw [e]; exact q
theorem rv_eqIS {a : Int} {b : Str} : RV K rEq (.int a) (.str b) (.bool false) := rv_pure (f := .bl false) (fun _ => .bl _) fun G H v w hv hw Q q => by
  rw [hv.int_, hw.str_]
  exact ⟨rfl, q⟩
theorem rv_I0 {g : Int → Int → V} {i j : Int} {z : PyData} (hz : ∀ G, Is K G (g i j) z) : RV K (rI0 g) (.int i) (.int j) z := rv_pure hz fun G H v w hv hw Q q => by
  rw [hv.int_, hw.int_]
  exact ⟨i, j, rfl, rfl, q⟩
theorem rv_I {C : Int → Int → Prop} {g : Int → Int → V} {i j : Int} {z : PyData} (hz : ∀ G, Is K G (g i j) z) (hc : C i j) : RV K (rI C g) (.int i) (.int j) z := rv_pure hz fun G H v w hv hw Q q => by
  rw [hv.int_, hw.int_]
  exact ⟨i, j, rfl, rfl, hc, q⟩
theorem rv_ixT {l : List PyData} {i : Int} (h : atI l i = some d) : RV K (rIxT K) (.tuple l) (.int i) d := fun G H v w e hv hw Q q => by
  cases hv with
  | tup h1 h2 =>
    rw [hw.int_]
    unfold atI at h
    rw [← h2.len] at h
    obtain ⟨j, hj, hd⟩ := Option.bind_eq_some_iff.mp h
    obtain ⟨u, hu, ru⟩ := h2.get hd
    exact ⟨_, _, i, u, rfl, rfl, ex_t e h1, by unfold atI; rw [hj]; exact hu, q u G H (.refl e) ru⟩
theorem rv_ixL {l : List PyData} {i : Int} (h : atI l i = some d) : RV K (rIxL K) (.list l) (.int i) d := fun G H v w e hv hw Q q => by
  cases hv with
  | lst h1 h2 =>
    rw [hw.int_]
    unfold atI at h
    rw [← h2.len] at h
    obtain ⟨j, hj, hd⟩ := Option.bind_eq_some_iff.mp h
    obtain ⟨u, hu, ru⟩ := h2.get hd
    exact ⟨_, _, i, u, rfl, rfl, .of (e _ _ h1), by unfold atI; rw [hj]; exact hu, q u G H (.refl e) ru⟩
theorem rv_cat {l m : List PyData} (h : l.length + m.length ≤ 2000000) : RV K rCat (.list l) (.list m) (.list (l ++ m)) := fun G H v w e hv hw Q q => by
  cases hv with
  | lst h1 h2 =>
    cases hw with
    | lst h3 h4 =>
      exact ⟨_, _, _, _, rfl, rfl, e _ _ h1, e _ _ h3, by rw [h2.len, h4.len]; exact sz h, fun p hp =>
        q _ _ _ (.lay e _ hp) (.lst upd_same ((h2.app h4).up (Ex.new (e.non_ hp))))⟩
theorem rv_catS {a b : List Nat} (h : a.length + b.length ≤ 2000000) : RV K (fun x y H Q => ∃ i j, x = .str i ∧ y = .str j ∧ i.length + j.length ≤ sizeLine ∧ Q (.str (i ++ j)) H) (.str (SX.S a)) (.str (SX.S b)) (.str (SX.S (a ++ b))) :=
  rv_pure (f := .str (SX.S (a ++ b))) (fun _ => .str _) fun G H v w hv hw Q q => by
    rw [hv.str_, hw.str_]
    exact ⟨_, _, rfl, rfl, by rw [SX.S_len, SX.S_len]; exact sz h, by rw [SX.S_cat]; exact q⟩
theorem rv_inS {c : Nat} {s : Str} : RV K (fun x y H Q => ∃ (c : Nat) (z : Str), x = .str ⟨#[c]⟩ ∧ y = .str z ∧ Q (.bl (decide (c ∈ z.cps.toList))) H) (.str (SX.S [c])) (.str s) (.bool (decide (c ∈ s.cps.toList))) :=
  rv_pure (f := .bl _) (fun _ => .bl _) fun G H v w hv hw Q q => by
    rw [hv.str_, hw.str_]
    exact ⟨c, s, rfl, rfl, q⟩
theorem rv_notInS {c : Nat} {s : Str} : RV K (fun x y H Q => ∃ (c : Nat) (z : Str), x = .str ⟨#[c]⟩ ∧ y = .str z ∧ Q (.bl (!decide (c ∈ z.cps.toList))) H) (.str (SX.S [c])) (.str s) (.bool (!decide (c ∈ s.cps.toList))) :=
  rv_pure (f := .bl _) (fun _ => .bl _) fun G H v w hv hw Q q => by
    rw [hv.str_, hw.str_]
    exact ⟨c, s, rfl, rfl, q⟩
theorem rv_isN {b : Bool} (h : (∃ z, x = .str z ∧ b = false) ∨ (∃ l, x = .list l ∧ b = false) ∨ (x = .none ∧ b = true)) : RV K (fun x y H Q => y = .non ∧ Q (.bl (decide (x = .non))) H) x .none (.bool b) :=
  rv_pure (f := .bl b) (fun _ => .bl _) fun G H v w hv hw Q q => by
    refine ⟨hw.non_, ?_⟩
    rcases h with ⟨z, rfl, rfl⟩ | ⟨l, rfl, rfl⟩ | ⟨rfl, rfl⟩
    · rw [hv.str_]; exact q
    · cases hv; exact q
    · rw [hv.non_]; exact q
theorem rv_notN {b : Bool} (h : (∃ z, x = .str z ∧ b = true) ∨ (∃ l, x = .list l ∧ b = true) ∨ (x = .none ∧ b = false)) : RV K (fun x y H Q => y = .non ∧ Q (.bl (!decide (x = .non))) H) x .none (.bool b) :=
  rv_pure (f := .bl b) (fun _ => .bl _) fun G H v w hv hw Q q => by
    refine ⟨hw.non_, ?_⟩
    rcases h with ⟨z, rfl, rfl⟩ | ⟨l, rfl, rfl⟩ | ⟨rfl, rfl⟩
    · rw [hv.str_]; exact q
    · cases hv; exact q
    · rw [hv.non_]; exact q
/-- x in (texts), the tuple or list of texts -/
theorem flat_all : ∀ (l : List Str), (l.map V.str).all flatV = true
  | [] => rfl
  | x :: l => by rw [List.map_cons, List.all_cons, flat_all l]; rfl
theorem IsL.strs {G : Hp} : ∀ {vs : List V} {l : List Str}, IsL K G vs (l.map PyData.str) → vs = l.map V.str
  | _, [], h => by cases h; rfl
  | _, x :: l, h => by
    cases h with
    | cons h1 h2 => rw [h1.str_, IsL.strs h2]; rfl
theorem IsL.of_strs {G : Hp} : ∀ (l : List Str), IsL K G (l.map V.str) (l.map PyData.str)
  | [] => .nil
  | x :: l => .cons (.str x) (IsL.of_strs l)
theorem inV_strs (a : Str) : ∀ l : List Str, inV (.str a) (l.map V.str) = decide (a ∈ l)
  | [] => rfl
  | b :: l => by
    have ih := inV_strs a l
    unfold inV at ih ⊢
    rw [List.map_cons, List.any_cons, ih]
    have e : eqV (V.str b) (V.str a) = decide (b = a) := by unfold eqV; first | rfl | simp
    rw [e]
    by_cases h : b = a
    · subst h; simp
    · have h' : ¬ a = b := fun z => h z.symm
      simp [h, h']
theorem rv_inT {a : Str} {l : List Str} {neg : Bool} : RV K (rIn K neg) (.str a) (.tuple (l.map PyData.str)) (.bool (if neg then !decide (a ∈ l) else decide (a ∈ l))) := fun G H v w e hv hw Q q => by
  rw [hv.str_]
  cases hw with
  | tup h1 h2 =>
    refine ⟨_, l.map V.str, rfl, .inr (ex_t e ?_), rfl, flat_all l, ?_⟩
    · rw [← h2.strs]; exact h1
    · rw [inV_strs]; exact q _ G H (.refl e) (.bl _)
theorem rv_inL {a : Str} {l : List Str} {neg : Bool} : RV K (rIn K neg) (.str a) (.list (l.map PyData.str)) (.bool (if neg then !decide (a ∈ l) else decide (a ∈ l))) := fun G H v w e hv hw Q q => by
  rw [hv.str_]
  cases hw with
  | lst h1 h2 =>
    refine ⟨_, l.map V.str, rfl, .inl (.of (e _ _ ?_)), rfl, flat_all l, ?_⟩
    · rw [← h2.strs]; exact h1
    · rw [inV_strs]; exact q _ G H (.refl e) (.bl _)
theorem eo_none : EvO K tNoPart ds none := fun σ G H e _ Q q => q G H (.refl e)
theorem eo_some {i : Int} (h : Ev K te ds (.int i)) : EvO K (tPart te) ds (some i) := fun σ G H e en Q q => h σ G H e en _ fun v G1 H1 g1 r1 => ⟨i, r1.int_, q G1 H1 g1⟩
theorem ev_slS {a : List Nat} {tl th : TO} {lo hi : Option Int} (h : Ev K te ds (.str (SX.S a))) (h1 : EvO K tl ds lo) (h2 : EvO K th ds hi) (hl : a.length ≤ 2000000) : Ev K (tSl rSlS te tl th) ds (.str (cutS (SX.S a) lo hi)) := fun σ G H e en Q q =>
  h σ G H e en _ fun v G1 H1 g1 r1 => h1 σ G1 H1 g1.gh (en.mono g1.g) _ fun G2 H2 g2 => h2 σ G2 H2 g2.gh (en.mono (g1.trans g2).g) _ fun G3 H3 g3 => by
    rw [r1.str_]
    exact ⟨_, rfl, by rw [SX.S_len]; exact sz hl, q _ G3 H3 ((g1.trans g2).trans g3) (.str _)⟩
theorem cutS_S (a : List Nat) (lo hi : Option Int) : cutS (SX.S a) lo hi = SX.S ((a.drop (HT.sIx a.length 0 lo)).take (HT.sIx a.length a.length hi - HT.sIx a.length 0 lo)) := by
  unfold cutS
  rw [SX.S_len]
theorem cut_to (a : List Nat) (k : Nat) : cutS (SX.S a) none (some (k : Int)) = SX.S (a.take k) := by
  rw [cutS_S, HT.sIx_nat, HT.sIx_none, List.drop_zero, Nat.sub_zero]
  exact congrArg SX.S (by rw [← List.take_take, List.take_length])
theorem cut_from (a : List Nat) (k : Nat) : cutS (SX.S a) (some (k : Int)) none = SX.S (a.drop k) := by
  rw [cutS_S, HT.sIx_nat, HT.sIx_none]
  congr 1
  by_cases h : k ≤ a.length
  · rw [Nat.min_eq_left h, List.take_of_length_le (by rw [List.length_drop]; omega)]
  · rw [Nat.min_eq_right (by omega), List.drop_length, List.drop_eq_nil_of_le (by omega)]
    simp
theorem cut_last (a : List Nat) : cutS (SX.S a) (some (-1)) none = SX.S (a.drop (a.length - 1)) := by
  rw [cutS_S, HT.sIx_none]
  have e : HT.sIx a.length 0 (some (-1)) = a.length - 1 := by
    show (if (-1 : Int) < 0 then ((-1 : Int) + (a.length : Int)).toNat else min (-1 : Int).toNat a.length) = a.length - 1
    rw [if_pos (by omega)]; omega
  rw [e]
  congr 1
  rw [List.take_of_length_le (by rw [List.length_drop]; omega)]
theorem cut_mid (a : List Nat) (k : Nat) : cutS (SX.S a) (some (k : Int)) (some (-1)) = SX.S ((a.take (a.length - 1)).drop k) := by
  rw [cutS_S, HT.sIx_nat]
  have e : HT.sIx a.length a.length (some (-1)) = a.length - 1 := by
    show (if (-1 : Int) < 0 then ((-1 : Int) + (a.length : Int)).toNat else min (-1 : Int).toNat a.length) = a.length - 1
    rw [if_pos (by omega)]; omega
  rw [e]
  congr 1
  rw [List.drop_take]
  by_cases h : k ≤ a.length
  · rw [Nat.min_eq_left h]
  · rw [Nat.min_eq_right (by omega), List.drop_length, List.drop_eq_nil_of_le (by omega)]
    simp
theorem ev_lenS {a : List Nat} (h : Ev K te ds (.str (SX.S a))) (hl : a.length ≤ 2000000) : Ev K (tCB (fun xs H Q => ∃ x n, xs = [x] ∧ LenV K x H n ∧ Q (.int n) H) (tCons te tNil)) ds (.int a.length) := fun σ G H e en Q q =>
  h σ G H e en _ fun v G1 H1 g1 r1 => by
    rw [r1.str_]
    exact ⟨_, a.length, rfl, ⟨by rw [SX.S_len]; exact sz hl, (SX.S_len a).symm⟩, q _ G1 H1 g1 (.int _)⟩
theorem ev_lenL {l : List PyData} (h : Ev K te ds (.list l)) : Ev K (tCB (fun xs H Q => ∃ x n, xs = [x] ∧ LenV K x H n ∧ Q (.int n) H) (tCons te tNil)) ds (.int l.length) := fun σ G H e en Q q =>
  h σ G H e en _ fun v G1 H1 g1 r1 => by
    cases r1 with
    | lst h1 h2 => exact ⟨_, l.length, rfl, .inl ⟨_, .of (g1.gh _ _ h1), h2.len.symm⟩, q _ G1 H1 g1 (.int _)⟩
theorem ev_lenT {l : List PyData} (h : Ev K te ds (.tuple l)) : Ev K (tCB (fun xs H Q => ∃ x n, xs = [x] ∧ LenV K x H n ∧ Q (.int n) H) (tCons te tNil)) ds (.int l.length) := fun σ G H e en Q q =>
  h σ G H e en _ fun v G1 H1 g1 r1 => by
    cases r1 with
    | tup h1 h2 => exact ⟨_, l.length, rfl, .inr ⟨_, ex_t g1.gh h1, h2.len.symm⟩, q _ G1 H1 g1 (.int _)⟩
/-- isinstance(x, str) -/
theorem ev_isStr {b : Bool} (h : Ev K te ds x) (hx : (∃ z, x = .str z ∧ b = true) ∨ (∃ i, x = .int i ∧ b = false)) : Ev K (tCB (rIsi K) (tCons te (tCons (tC (.ty "str")) tNil))) ds (.bool b) := fun σ G H e en Q q =>
  h σ G H e en _ fun v G1 H1 g1 r1 => by
    rcases hx with ⟨z, rfl, rfl⟩ | ⟨i, rfl, rfl⟩
    · rw [r1.str_]
      exact ⟨_, _, _, _, _, rfl, .ty "str", .base (.str z), kit_ty (by decide +kernel), q _ G1 H1 g1 (.bl _)⟩
    · rw [r1.int_]
      exact ⟨_, _, _, _, _, rfl, .ty "str", .base (.int i), kit_ty (by decide +kernel), q _ G1 H1 g1 (.bl _)⟩

/-! ### calls of defs -/
/-- the promise of a def that changes nothing: on data l it answers data d, where R l d -/
def spR (K : PySem.W.Frag) (R : List PyData → PyData → Prop) : Sp := fun vs H Q _ => ∃ G l d, Ex G H ∧ IsL K G vs l ∧ R l d ∧ ∀ v G' H', Grow G H G' H' → Is K G' v d → Q v H'
theorem ev_call {R : List PyData → PyData → Prop} {ta : TA} {l : List PyData} {E : XK} (h : EvA K ta ds l) (hr : R l d) : Ev K (tCall (spR K R) [] E ta) ds d := fun σ G H e en Q q =>
  h σ G H e en _ fun vs G1 H1 g1 r1 => ⟨G1, l, d, g1.gh, by rw [List.append_nil]; exact r1, hr, fun v G2 H2 g2 r2 => q v G2 H2 (g1.trans g2) r2⟩

/-! ### tests -/
theorem et_test {b : Bool} (h : Ev K te ds (.bool b)) : EvT K (tTest te) ds b := fun σ G H e en Q q => h σ G H e en _ fun v G1 H1 g1 r1 => ⟨b, r1.bl_, q G1 H1 g1⟩
theorem et_B {b : Bool} (h : Ev K te ds (.bool b)) : EvT K (tB te) ds b := fun σ G H e en Q q => h σ G H e en _ fun v G1 H1 g1 r1 => ⟨b, r1.bl_, q G1 H1 g1⟩
theorem et_and {a b : Bool} (h1 : EvT K t ds a) (h2 : a = true → EvT K u ds b) : EvT K (tAnd t u) ds (a && b) := fun σ G H e en Q q => h1 σ G H e en _ fun G1 H1 g1 => by
  cases a with
  | true => show u σ H1 Q; exact h2 rfl σ G1 H1 g1.gh (en.mono g1.g) Q fun G2 H2 g2 => q G2 H2 (g1.trans g2)
  | false => show Q false H1; exact q G1 H1 g1
theorem et_or {a b : Bool} (h1 : EvT K t ds a) (h2 : a = false → EvT K u ds b) : EvT K (tOr t u) ds (a || b) := fun σ G H e en Q q => h1 σ G H e en _ fun G1 H1 g1 => by
  cases a with
  | true => show Q true H1; exact q G1 H1 g1
  | false => show u σ H1 Q; exact h2 rfl σ G1 H1 g1.gh (en.mono g1.g) Q fun G2 H2 g2 => q G2 H2 (g1.trans g2)
theorem et_not {a : Bool} (h1 : EvT K t ds a) : EvT K (tNot t) ds (!a) := fun σ G H e en Q q => h1 σ G H e en _ fun G1 H1 g1 => q G1 H1 g1
theorem et_yes : EvT K tYes ds true := fun σ G H e en Q q => q G H (.refl e)
theorem ev_andV {a b : Bool} (h1 : Ev K ta ds (.bool a)) (h2 : a = true → Ev K tb ds (.bool b)) : Ev K (tAndV ta tb) ds (.bool (a && b)) := fun σ G H e en Q q => h1 σ G H e en _ fun v G1 H1 g1 r1 => ⟨a, r1.bl_, by
  cases a with
  | true => show tb σ H1 Q; exact h2 rfl σ G1 H1 g1.gh (en.mono g1.g) Q fun v2 G2 H2 g2 r2 => q v2 G2 H2 (g1.trans g2) r2
  | false => show Q (.bl false) H1; exact q _ G1 H1 g1 (.bl _)⟩
theorem ev_orV {a b : Bool} (h1 : Ev K ta ds (.bool a)) (h2 : a = false → Ev K tb ds (.bool b)) : Ev K (tOrV ta tb) ds (.bool (a || b)) := fun σ G H e en Q q => h1 σ G H e en _ fun v G1 H1 g1 r1 => ⟨a, r1.bl_, by
  cases a with
  | true => show Q (.bl true) H1; exact q _ G1 H1 g1 (.bl _)
  | false => show tb σ H1 Q; exact h2 rfl σ G1 H1 g1.gh (en.mono g1.g) Q fun v2 G2 H2 g2 r2 => q v2 G2 H2 (g1.trans g2) r2⟩

/-! ### targets -/
def Tgt (K : PySem.W.Frag) (g : TG) (js : List Nat) (x : PyData) (ds ds' : List (Option PyData)) : Prop :=
  ∀ (σ : Slots) (G H : Hp) (v : V), Ex G H → Is K G v x → EnvI K G σ ds → ∀ Q : Slots → Hp → Prop, (∀ σ', EnvI K G σ' ds' → (∀ k, k ∉ js → σ'[k]? = σ[k]?) → σ'.length = σ.length → Q σ' H) → g v σ H Q
theorem tgt_name {i : Nat} : Tgt K (gName i) [i] x ds (ds.set i (some x)) := fun σ G H v e r en Q q => by
  refine q _ (en.set r i) (fun k hk => ?_) (by simp)
  rw [List.getElem?_set_ne (fun z => hk (by simp [z]))]
theorem tgt_tup2 {i j : Nat} {a b : PyData} : Tgt K (gTup K 2 (gCons (gName i) (gCons (gName j) gNil))) [i, j] (.tuple [a, b]) ds ((ds.set i (some a)).set j (some b)) := fun σ G H v e r en Q q => by
  cases r with
  | tup h1 h2 =>
    cases h2 with
    | cons r1 h2 =>
      cases h2 with
      | cons r2 h2 =>
        cases h2
        refine ⟨_, _, rfl, ex_t e h1, rfl, _, _, rfl, _, _, rfl, rfl, q _ ((en.set r1 i).set r2 j) (fun k hk => ?_) (by simp)⟩
        rw [List.getElem?_set_ne (fun z => hk (by simp [z])), List.getElem?_set_ne (fun z => hk (by simp [z]))]
theorem tgt_tup3 {i j k : Nat} {a b c : PyData} : Tgt K (gTup K 3 (gCons (gName i) (gCons (gName j) (gCons (gName k) gNil)))) [i, j, k] (.tuple [a, b, c]) ds (((ds.set i (some a)).set j (some b)).set k (some c)) := fun σ G H v e r en Q q => by
  cases r with
  | tup h1 h2 =>
    cases h2 with
    | cons r1 h2 =>
      cases h2 with
      | cons r2 h2 =>
        cases h2 with
        | cons r3 h2 =>
          cases h2
          refine ⟨_, _, rfl, ex_t e h1, rfl, _, _, rfl, _, _, rfl, _, _, rfl, rfl, q _ (((en.set r1 i).set r2 j).set r3 k) (fun l hl => ?_) (by simp)⟩
          rw [List.getElem?_set_ne (fun z => hl (by simp [z])), List.getElem?_set_ne (fun z => hl (by simp [z])), List.getElem?_set_ne (fun z => hl (by simp [z]))]
end

/-! ### what is walked -/
structure Walk (K : PySem.W.Frag) (G : Hp) (J : It) (xs : List PyData) : Prop where
  go : ∀ i G1 H1, Ex G G1 → Ex G1 H1 → i < xs.length → J.go i H1
  yld : ∀ i G1 H1 v H2, Ex G G1 → Ex G1 H1 → i < xs.length → J.yld i H1 v H2 → H2 = H1 ∧ ∃ d, xs[i]? = some d ∧ Is K G1 v d
  stop : ∀ i G1 H1, Ex G G1 → Ex G1 H1 → xs.length ≤ i → J.stop i H1
theorem Walk.mono {K : PySem.W.Frag} {G G' : Hp} {J : It} {xs : List PyData} (w : Walk K G J xs) (e : Ex G G') : Walk K G' J xs :=
  ⟨fun i G1 H1 e1 => w.go i G1 H1 (e.trans e1), fun i G1 H1 v H2 e1 => w.yld i G1 H1 v H2 (e.trans e1), fun i G1 H1 e1 => w.stop i G1 H1 (e.trans e1)⟩
def Src (K : PySem.W.Frag) (wi : TI) (ds : List (Option PyData)) (xs : List PyData) : Prop :=
  ∀ (σ : Slots) (G H : Hp), Ex G H → EnvI K G σ ds → ∀ R : It → Hp → Prop, (∀ J G' H', Grow G H G' H' → Walk K G' J xs → R J H') → wi σ H R
section
variable {K : PySem.W.Frag} {ds : List (Option PyData)} {te : TE} {xs : List PyData}
theorem walk_lst {G : Hp} {a : Addr} {vs : List V} (h1 : SqL K G a vs) (h2 : IsL K G vs xs) : Walk K G (Itl K a) xs :=
  ⟨fun i G1 H1 e1 e2 hi => by
    rw [← h2.len] at hi
    exact ⟨vs, vs[i], ex_l (e1.trans e2) h1, List.getElem?_eq_getElem hi⟩,
   fun i G1 H1 v H2 e1 e2 hi y => by
    obtain ⟨e, y⟩ := y
    refine ⟨e, xs[i], List.getElem?_eq_getElem hi, ?_⟩
    obtain ⟨u, hu, ru⟩ := h2.get (List.getElem?_eq_getElem hi)
    have q := y vs (ex_l (e1.trans e2) h1)
    rw [hu] at q
    cases q
    exact ru.up e1,
   fun i G1 H1 e1 e2 hi => ⟨vs, ex_l (e1.trans e2) h1, by rw [h2.len]; exact hi⟩⟩
theorem walk_tup {G : Hp} {a : Addr} {vs : List V} (h1 : SqT K G a vs) (h2 : IsL K G vs xs) : Walk K G (Itt K a) xs :=
  ⟨fun i G1 H1 e1 e2 hi => by
    rw [← h2.len] at hi
    exact ⟨vs, vs[i], ex_t (e1.trans e2) h1, List.getElem?_eq_getElem hi⟩,
   fun i G1 H1 v H2 e1 e2 hi y => by
    obtain ⟨e, y⟩ := y
    refine ⟨e, xs[i], List.getElem?_eq_getElem hi, ?_⟩
    obtain ⟨u, hu, ru⟩ := h2.get (List.getElem?_eq_getElem hi)
    have q := y vs (ex_t (e1.trans e2) h1)
    rw [hu] at q
    cases q
    exact ru.up e1,
   fun i G1 H1 e1 e2 hi => ⟨vs, ex_t (e1.trans e2) h1, by rw [h2.len]; exact hi⟩⟩
theorem src_lst (h : Ev K te ds (.list xs)) : Src K (iList K te) ds xs := fun σ G H e en R r =>
  h σ G H e en _ fun v G1 H1 g1 r1 => by
    cases r1 with
    | lst h1 h2 => exact ⟨_, rfl, ⟨_, .of (g1.gh _ _ h1)⟩, r _ G1 H1 g1 (walk_lst (.of h1) h2)⟩
theorem src_tup (h : Ev K te ds (.tuple xs)) : Src K (iTup K te) ds xs := fun σ G H e en R r =>
  h σ G H e en _ fun v G1 H1 g1 r1 => by
    cases r1 with
    | tup h1 h2 => exact ⟨_, rfl, ⟨_, ex_t g1.gh h1⟩, r _ G1 H1 g1 (walk_tup h1 h2)⟩
/-- the signs of a text -/
def chs (a : List Nat) : List PyData := a.map fun c => .str (SX.S [c])
theorem src_str {a : List Nat} (h : Ev K te ds (.str (SX.S a))) : Src K (iStr te) ds (chs a) := fun σ G H e en R r =>
  h σ G H e en _ fun v G1 H1 g1 r1 => by
    rw [r1.str_]
    have hl : (SX.S a).cps.size = a.length := by simp
    refine ⟨_, rfl, r _ G1 H1 g1 ⟨fun i G2 H2 _ _ hi => ?_, fun i G2 H2 v H3 _ _ hi y => ?_, fun i G2 H2 _ _ hi => ?_⟩⟩
    · show i < (SX.S a).cps.size
      rw [hl]; unfold chs at hi; rw [List.length_map] at hi; exact hi
    · obtain ⟨e, c, hc, rfl⟩ := y
      refine ⟨e, _, ?_, .str _⟩
      have hc' : a[i]? = some c := by simpa using hc
      unfold chs
      rw [List.getElem?_map, hc']
      rfl
    · show (SX.S a).cps.size ≤ i
      rw [hl]; unfold chs at hi; rw [List.length_map] at hi; exact hi
theorem src_rng {ta : TA} {n : Int} (h : EvA K ta ds [.int n]) (h0 : 0 ≤ n) (h1 : n < 2 ^ 62) : Src K (iRng1 ta) ds ((List.range n.toNat).map fun (i : Nat) => .int (i : Int)) := fun σ G H e en R r =>
  h σ G H e en _ fun vs G1 H1 g1 r1 => by
    cases r1 with
    | cons q1 q2 =>
      cases q2
      rw [q1.int_]
      refine ⟨n, rfl, by omega, h1, r _ G1 H1 g1 ⟨fun i G2 H2 _ _ hi => ?_, fun i G2 H2 v H3 _ _ hi y => ?_, fun i G2 H2 _ _ hi => ?_⟩⟩
      · show i < n.toNat
        rw [List.length_map, List.length_range] at hi; exact hi
      · obtain ⟨e, rfl⟩ := y
        refine ⟨e, _, List.getElem?_eq_getElem hi, ?_⟩
        have q : (0 : Int) + (i : Int) = (i : Int) := by omega
        rw [q]
        simp
        exact .int _
      · show n.toNat ≤ i
        rw [List.length_map, List.length_range] at hi; exact hi
end
end K49

set_option Elab.async false
set_option linter.all false
set_option maxRecDepth 100000
/-! K49Stm: statements, loops, comprehensions over the data layer. -/
namespace K49
open PySem L2

/-- how a statement ends: on to the next one with an environment and one list of one's own (slot, items), or a value handed back -/
inductive Out where
  | nx (ds : List (Option PyData)) (acc : Option (Nat × List PyData))
  | ret (d : PyData)
/-- the list of one's own in the slot i: it stands in H, not among the data, and was not there at the def's entry -/
def AccI (K : PySem.W.Frag) (H0 G H : Hp) (σ : Slots) : Option (Nat × List PyData) → Prop
  | none => True
  | some (i, ls) => ∃ a xs, σ[i]? = some (some (.ref a)) ∧ H a = some (.lst xs) ∧ G a = none ∧ H0 a = none ∧ IsL K G xs ls
theorem AccI.grow {K : PySem.W.Frag} {H0 G H G' H' : Hp} {σ : Slots} {acc : Option (Nat × List PyData)} (h : AccI K H0 G H σ acc) (g : Grow G H G' H') : AccI K H0 G' H' σ acc := by
  cases acc with
  | none => trivial
  | some p =>
    obtain ⟨i, ls⟩ := p
    obtain ⟨a, xs, h1, h2, h3, h4, h5⟩ := h
    refine ⟨a, xs, h1, g.h _ _ h2, ?_, h4, h5.up g.g⟩
    cases q : G' a with
    | none => rfl
    | some o =>
      have z := g.nw a h3 (by rw [q]; exact fun z => nomatch z)
      rw [h2] at z; cases z
theorem AccI.slots {K : PySem.W.Frag} {H0 G H : Hp} {σ σ' : Slots} {acc : Option (Nat × List PyData)} (h : AccI K H0 G H σ acc) (e : ∀ i ls, acc = some (i, ls) → σ'[i]? = σ[i]?) : AccI K H0 G H σ' acc := by
  cases acc with
  | none => trivial
  | some p =>
    obtain ⟨i, ls⟩ := p
    obtain ⟨a, xs, h1, h2⟩ := h
    exact ⟨a, xs, by rw [e i ls rfl]; exact h1, h2⟩
/-- the state: the entry G0 H0, now G H -/
structure SI (K : PySem.W.Frag) (G0 H0 G H : Hp) (σ : Slots) (ds : List (Option PyData)) (acc : Option (Nat × List PyData)) : Prop where
  gr : Grow G0 H0 G H
  en : EnvI K G σ ds
  ac : AccI K H0 G H σ acc
theorem SI.go {K : PySem.W.Frag} {G0 H0 G H G' H' : Hp} {σ : Slots} {ds : List (Option PyData)} {acc : Option (Nat × List PyData)} (s : SI K G0 H0 G H σ ds acc) (g : Grow G H G' H') : SI K G0 H0 G' H' σ ds acc :=
  ⟨s.gr.trans g, s.en.mono g.g, s.ac.grow g⟩
/-- what is wanted of an end -/
def OutW (K : PySem.W.Frag) (G0 H0 G : Hp) (D : Ends) : Out → Prop
  | .nx ds acc => ∀ σ G' H', Ex G G' → SI K G0 H0 G' H' σ ds acc → D.nx σ H'
  | .ret d => ∀ v G' H', Grow G0 H0 G' H' → Is K G' v d → D.rt v H'
def SD (K : PySem.W.Frag) (t : TS) (ds : List (Option PyData)) (acc : Option (Nat × List PyData)) (o : Out) : Prop :=
  ∀ (σ : Slots) (G0 H0 G H : Hp) (D : Ends), SI K G0 H0 G H σ ds acc → OutW K G0 H0 G D o → t D σ H
theorem OutW.up {K : PySem.W.Frag} {G0 H0 G G1 : Hp} {D : Ends} {o : Out} (q : OutW K G0 H0 G D o) (e : Ex G G1) : OutW K G0 H0 G1 D o := by
  cases o with
  | nx ds acc => exact fun σ G' H' e1 s => q σ G' H' (e.trans e1) s
  | ret d => exact q
section
variable {K : PySem.W.Frag} {ds es : List (Option PyData)} {acc acc' : Option (Nat × List PyData)} {o : Out} {t t1 t2 tb : TS} {te ta : TE} {c : TT} {d x : PyData} {g : TG} {js : List Nat}
theorem sd_is {o' : Out} (h : SD K t ds acc o) (e : o = o') : SD K t ds acc o' := e ▸ h
theorem sd_seq {es : List (Option PyData)} {acc' : Option (Nat × List PyData)} (h1 : SD K t1 ds acc (.nx es acc')) (h2 : SD K t2 es acc' o) : SD K (tSeq t1 t2) ds acc o := fun σ G0 H0 G H D s q =>
  h1 σ G0 H0 G H _ s fun σ1 G1 H1 e1 s1 => h2 σ1 G0 H0 G1 H1 D s1 (q.up e1)
/-- the first statement hands back -/
theorem sd_seqR (h1 : SD K t1 ds acc (.ret d)) : SD K (tSeq t1 t2) ds acc (.ret d) := fun σ G0 H0 G H D s q => h1 σ G0 H0 G H _ s q
theorem sd_next : SD K tNext ds acc (.nx ds acc) := fun σ G0 H0 G H D s q => q σ G H (Ex.refl _) s
theorem sd_weak (h : SD K t ds acc (.nx es acc')) {es' : List (Option PyData)} (w : Wk es es') : SD K t ds acc (.nx es' acc') := fun σ G0 H0 G H D s q =>
  h σ G0 H0 G H D s fun σ1 G1 H1 e1 s1 => q σ1 G1 H1 e1 ⟨s1.gr, s1.en.weak w, s1.ac⟩
theorem sd_pre {ds' : List (Option PyData)} (w : Wk ds ds') (h : SD K t ds' acc o) : SD K t ds acc o := fun σ G0 H0 G H D s q => h σ G0 H0 G H D ⟨s.gr, s.en.weak w, s.ac⟩ q
theorem sd_if {b : Bool} (h : EvT K c ds b) (h1 : b = true → SD K t1 ds acc o) (h2 : b = false → SD K t2 ds acc o) : SD K (tIfS c t1 t2) ds acc o := fun σ G0 H0 G H D s q =>
  h σ G H s.gr.gh s.en _ fun G1 H1 g1 => by
    cases b with
    | true => exact h1 rfl σ G0 H0 G1 H1 D (s.go g1) (q.up g1.g)
    | false => exact h2 rfl σ G0 H0 G1 H1 D (s.go g1) (q.up g1.g)
theorem sd_ifT (h : EvT K c ds true) (h1 : SD K t1 ds acc o) : SD K (tIfS c t1 t2) ds acc o := sd_if h (fun _ => h1) fun z => nomatch z
theorem sd_ifF (h : EvT K c ds false) (h2 : SD K t2 ds acc o) : SD K (tIfS c t1 t2) ds acc o := sd_if h (fun z => nomatch z) fun _ => h2
/-- an if, then the rest -/
theorem sd_ifq {b : Bool} {u : TS} (h : EvT K c ds b) (h1 : b = true → SD K (tSeq t1 u) ds acc o) (h2 : b = false → SD K (tSeq t2 u) ds acc o) : SD K (tSeq (tIfS c t1 t2) u) ds acc o := fun σ G0 H0 G H D s q =>
  h σ G H s.gr.gh s.en _ fun G1 H1 g1 => by
    cases b with
    | true => exact h1 rfl σ G0 H0 G1 H1 D (s.go g1) (q.up g1.g)
    | false => exact h2 rfl σ G0 H0 G1 H1 D (s.go g1) (q.up g1.g)
theorem sd_nextq {u : TS} (h : SD K u ds acc o) : SD K (tSeq tNext u) ds acc o := h
/-- hands back, whatever the rest is -/
theorem sd_seqT {u : TS} (h1 : SD K t1 ds acc o) (hd : ∃ d, o = .ret d) : SD K (tSeq t1 u) ds acc o := by
  obtain ⟨d, rfl⟩ := hd
  exact sd_seqR h1
theorem sd_ret (h : Ev K te ds d) : SD K (tRet te) ds acc (.ret d) := fun σ G0 H0 G H D s q =>
  h σ G H s.gr.gh s.en _ fun v G1 H1 g1 r1 => q v G1 H1 (s.gr.trans g1) r1
theorem sd_asg (h : Ev K te ds x) (hg : Tgt K g js x ds es) (ha : ∀ i ls, acc = some (i, ls) → i ∉ js := by (intro i ls z; cases z <;> decide)) : SD K (tAsg te g) ds acc (.nx es acc) := fun σ G0 H0 G H D s q =>
  h σ G H s.gr.gh s.en _ fun v G1 H1 g1 r1 => by
    have s1 := s.go g1
    exact hg σ G1 H1 v g1.gh r1 s1.en _ fun σ' en' k hl => q σ' G1 H1 g1.g ⟨s1.gr, en', s1.ac.slots fun i ls e => k i (ha i ls e)⟩
theorem sd_set {i : Nat} (h : Ev K te ds x) (ha : ∀ k ls, acc = some (k, ls) → k ∉ [i] := by (intro i ls z; cases z <;> decide)) : SD K (tAsg te (gName i)) ds acc (.nx (ds.set i (some x)) acc) := sd_asg h tgt_name ha
/-- x = [] : a list of one's own -/
theorem sd_mine {i : Nat} (hi : i < ds.length := by exact Nat.le_of_ble_eq_true rfl) : SD K (tAsg (tLst tNil) (gName i)) ds none (.nx (ds.set i none) (some (i, []))) := fun σ G0 H0 G H D s q => by
  refine ⟨Nat.zero_le _, fun p hp => q _ G _ (Ex.refl _) ⟨?_, ?_, p, [], ?_, upd_same, s.gr.gh.non_ hp, s.gr.h.non_ hp, .nil⟩⟩
  · exact s.gr.mut (s.gr.gh.non_ hp) (s.gr.h.non_ hp)
  · exact s.en.off _ i
  · rw [List.getElem?_set_self (by rw [s.en.len]; exact hi)]
/-- xs.append(e) -/
theorem sd_app {i : Nat} {ls : List PyData} (h : Ev K te ds d) (hl : ls.length ≤ 1000000) : SD K (tDrop (tBM K "list" rAppend (tVar i) (tCons te tNil))) ds (some (i, ls)) (.nx ds (some (i, ls ++ [d]))) := fun σ G0 H0 G H D s q => by
  obtain ⟨a, xs, h1, h2, h3, h4, h5⟩ := id s.ac
  refine ⟨_, h1, Or.inl ⟨rfl, xs, .of h2⟩, h σ G H s.gr.gh s.en _ fun v G1 H1 g1 r1 => ?_⟩
  have s1 := s.go g1
  obtain ⟨b, ys, k1, k2, k3, k4, k5⟩ := id s1.ac
  rw [h1] at k1
  cases k1
  refine ⟨_, ys, v, rfl, rfl, k2, by rw [k5.len]; exact szl (by omega), q σ G1 _ g1.g ⟨s1.gr.mut k3 k4, s1.en, _, _, h1, upd_same, k3, k4, k5.app (.one r1)⟩⟩
/-- xs.extend(e) -/
theorem sd_ext {i : Nat} {ls ms : List PyData} (h : Ev K te ds (.list ms)) (hl : ls.length + ms.length ≤ 1000000) : SD K (tDrop (tBM K "list" rExtend (tVar i) (tCons te tNil))) ds (some (i, ls)) (.nx ds (some (i, ls ++ ms))) := fun σ G0 H0 G H D s q => by
  obtain ⟨a, xs, h1, h2, h3, h4, h5⟩ := id s.ac
  refine ⟨_, h1, Or.inl ⟨rfl, xs, .of h2⟩, h σ G H s.gr.gh s.en _ fun v G1 H1 g1 r1 => ?_⟩
  have s1 := s.go g1
  obtain ⟨b, ys, k1, k2, k3, k4, k5⟩ := id s1.ac
  rw [h1] at k1
  cases k1
  cases r1 with
  | lst m1 m2 =>
    refine ⟨_, _, ys, _, rfl, rfl, k2, g1.gh _ _ m1, by rw [k5.len, m2.len]; exact sz (by omega), q σ G1 _ g1.g ⟨s1.gr.mut k3 k4, s1.en, _, _, h1, upd_same, k3, k4, k5.app m2⟩⟩
/-- the list of one's own becomes data -/
theorem sd_seal {i : Nat} {ls : List PyData} (h : SD K t (ds.set i (some (.list ls))) none o) : SD K t ds (some (i, ls)) o := fun σ G0 H0 G H D s q => by
  obtain ⟨a, xs, h1, h2, h3, h4, h5⟩ := id s.ac
  refine h σ G0 H0 (upd G a (.lst xs)) H D ⟨s.gr.seal h2 h3 h4, ?_, trivial⟩ (q.up (Ex.new h3))
  have r : Is K (upd G a (.lst xs)) (.ref a) (.list ls) := .lst upd_same (h5.up (Ex.new h3))
  have en := (s.en.mono (Ex.new (o := .lst xs) h3)).set r i
  have e : σ.set i (some (.ref a)) = σ := by
    apply List.ext_getElem?
    intro k
    by_cases hk : i = k
    · subst hk
      have hlt := (List.getElem?_eq_some_iff.mp h1).1
      rw [List.getElem?_set_self hlt, h1]
    · rw [List.getElem?_set_ne hk]
  rw [e] at en
  exact en

/-! ### loops -/
/-- for: E j, A j: environment and own list ahead of turn j; F j: with the target; n turns run through; then the end, or a turn that hands back -/
theorem sd_for {wi : TI} {xs : List PyData} (E F : Nat → List (Option PyData)) (A : Nat → Option (Nat × List PyData)) (n : Nat) (hs : Src K wi ds xs) (h0 : Wk ds (E 0)) (a0 : acc = A 0)
    (hj : ∀ j i ls, A j = some (i, ls) → i ∉ js) (hg : ∀ j x, xs[j]? = some x → Tgt K g js x (E j) (F j))
    (turn : ∀ j x, xs[j]? = some x → j < n → SD K tb (F j) (A j) (.nx (E (j + 1)) (A (j + 1))))
    (fin : (n = xs.length ∧ o = .nx (E n) (A n)) ∨ (n < xs.length ∧ ∃ d, o = .ret d ∧ SD K tb (F n) (A n) (.ret d))) : SD K (tFor wi g tb) ds acc o := fun σ G0 H0 G H D s q => by
  have hn : n ≤ xs.length := by rcases fin with h | h <;> omega
  refine hs σ G H s.gr.gh s.en _ fun J G1 H1 g1 w1 => ?_
  have s1 := s.go g1
  refine ⟨fun i m σ2 H2 => m = n - i ∧ i ≤ n ∧ ∃ G2, Ex G1 G2 ∧ SI K G0 H0 G2 H2 σ2 (E i) (A i), ⟨n, by omega, Nat.zero_le _, G1, Ex.refl _, s1.gr, s1.en.weak h0, by rw [← a0]; exact s1.ac⟩, ?_⟩
  rintro i m σ2 H2 ⟨rfl, hi, G2, e2, s2⟩
  have w2 := w1.mono e2
  by_cases hlt : i < n
  · refine .inr ⟨w2.go i G2 H2 (Ex.refl _) s2.gr.gh (by omega), fun σ3 H3 => i + 1 ≤ n ∧ ∃ G3, Ex G1 G3 ∧ SI K G0 H0 G3 H3 σ3 (E (i + 1)) (A (i + 1)), fun σ3 H3 ⟨l3, G3, e3, s3⟩ => ⟨n - (i + 1), by omega, rfl, l3, G3, e3, s3⟩, fun v H' y => ?_⟩
    obtain ⟨rfl, x, hx, r⟩ := w2.yld i G2 H2 v H' (Ex.refl _) s2.gr.gh (by omega) y
    refine hg i x hx σ2 G2 _ v s2.gr.gh r s2.en _ fun σ3 en3 k3 l3 => ?_
    exact turn i x hx hlt σ3 G0 H0 G2 H' _ ⟨s2.gr, en3, s2.ac.slots fun z ls e => k3 z (hj i z ls e)⟩ fun σ4 G4 H4 e4 s4 => ⟨hlt, G4, e2.trans e4, s4⟩
  · have ei : i = n := by omega
    subst ei
    rcases fin with ⟨hl, rfl⟩ | ⟨hl, d, rfl, hd⟩
    · exact .inl ⟨w2.stop i G2 H2 (Ex.refl _) s2.gr.gh (by omega), q σ2 G2 H2 (g1.g.trans e2) s2⟩
    · refine .inr ⟨w2.go i G2 H2 (Ex.refl _) s2.gr.gh hl, fun _ _ => False, fun _ _ z => z.elim, fun v H' y => ?_⟩
      obtain ⟨rfl, x, hx, r⟩ := w2.yld i G2 H2 v H' (Ex.refl _) s2.gr.gh hl y
      refine hg i x hx σ2 G2 _ v s2.gr.gh r s2.en _ fun σ3 en3 k3 l3 => ?_
      exact hd σ3 G0 H0 G2 H' _ ⟨s2.gr, en3, s2.ac.slots fun z ls e => k3 z (hj i z ls e)⟩ q

/-! ### comprehensions -/
/-- a new list, still one's own -/
def EvM (K : PySem.W.Frag) (te : TE) (ds : List (Option PyData)) (ls : List PyData) : Prop :=
  ∀ (σ : Slots) (G H : Hp), Ex G H → EnvI K G σ ds → ∀ Q : VK, (∀ a xs G' H', Grow G H G' H' → H' a = some (.lst xs) → G' a = none → H a = none → IsL K G' xs ls → Q (.ref a) H') → te σ H Q
theorem EvM.seal {ls : List PyData} (h : EvM K te ds ls) : Ev K te ds (.list ls) := fun σ G H e en Q q =>
  h σ G H e en _ fun a xs G' H' g h1 n1 n2 r => q _ _ H' (g.seal h1 n1 n2) (.lst upd_same (r.up (Ex.new n1)))
/-- a name gets it -/
theorem sd_setM {i : Nat} {ls : List PyData} (h : EvM K te ds ls) (hi : i < ds.length := by exact Nat.le_of_ble_eq_true rfl) : SD K (tAsg te (gName i)) ds none (.nx (ds.set i none) (some (i, ls))) := fun σ G0 H0 G H D s q =>
  h σ G H s.gr.gh s.en _ fun a xs G' H' g h1 n1 n2 r => by
    have s1 := s.go g
    refine q _ G' H' g.g ⟨s1.gr, s1.en.off _ i, a, xs, ?_, h1, n1, s.gr.h.non_ n2, r⟩
    rw [List.getElem?_set_self (by rw [s1.en.len]; exact hi)]
theorem em_lst0 : EvM K (tLst tNil) ds [] := fun σ G H e en Q q => ⟨Nat.zero_le _, fun p hp => q p [] G _ ((Grow.refl e).mut (e.non_ hp) hp) upd_same (e.non_ hp) hp .nil⟩
theorem em_lc {wi : TI} {tt : TT} {vs : List Nat} {xs : List PyData} (p : PyData → Bool) (f : PyData → PyData) (hs : Src K wi ds xs) (hjs : ∀ k ∈ js, k ∈ vs) (hl : xs.length ≤ 1000000)
    (turn : ∀ x ∈ xs, ∃ es, Tgt K g js x (wipeD ds vs) es ∧ EvT K tt es (p x) ∧ (p x = true → Ev K te es (f x))) : EvM K (tLc wi g tt te vs) ds ((xs.filter p).map f) := fun σ G H e en Q q => by
  refine hs σ G H e en _ fun J G1 H1 g1 w1 D hD => ?_
  have hD0 : H D = none := g1.h.non_ hD
  have hDG : G1 D = none := g1.gh.non_ hD
  refine ⟨fun i m H2 => m = xs.length - i ∧ i ≤ xs.length ∧ ∃ G2 acc, Ex G1 G2 ∧ Grow G H G2 H2 ∧ H2 D = some (.lst acc) ∧ G2 D = none ∧ IsL K G2 acc (((xs.take i).filter p).map f),
    ⟨xs.length, by omega, Nat.zero_le _, G1, [], Ex.refl _, g1.mut hDG hD0, upd_same, hDG, .nil⟩, ?_⟩
  rintro i m H2 ⟨rfl, hi, G2, ac, e2, g2, h2, n2, r2⟩
  have w2 := w1.mono e2
  by_cases hlt : i < xs.length
  · refine .inr ⟨w2.go i G2 H2 (Ex.refl _) g2.gh hlt, fun H3 => i + 1 ≤ xs.length ∧ ∃ G3 acc, Ex G1 G3 ∧ Grow G H G3 H3 ∧ H3 D = some (.lst acc) ∧ G3 D = none ∧ IsL K G3 acc (((xs.take (i + 1)).filter p).map f),
      fun H3 ⟨l3, G3, ac3, z⟩ => ⟨xs.length - (i + 1), by omega, rfl, l3, G3, ac3, z⟩, fun v H' y => ?_⟩
    obtain ⟨rfl, x, hx, r⟩ := w2.yld i G2 H2 v H' (Ex.refl _) g2.gh hlt y
    obtain ⟨es, ht, hp, hf⟩ := turn x (List.mem_of_getElem? hx)
    have en2 : EnvI K G2 (L2.wipe σ vs) (wipeD ds vs) := (en.mono (g1.g.trans e2)).wipe vs
    have et : xs.take (i + 1) = xs.take i ++ [x] := by rw [List.take_add_one, hx]; rfl
    have hla : ac.length ≤ i := by
      rw [r2.len, List.length_map]
      exact Nat.le_trans (List.length_filter_le _ _) (by rw [List.length_take]; omega)
    refine ht _ G2 _ v g2.gh r en2 _ fun σ3 en3 k3 l3 => ⟨wipe_eq (by rw [l3, wipe_length]) fun k hk => k3 k fun z => hk (hjs k z), ?_⟩
    refine hp σ3 G2 _ g2.gh en3 _ fun G4 H4 g4 => ?_
    have h4 : H4 D = some (.lst ac) := g4.h _ _ h2
    have n4 : G4 D = none := by
      cases q : G4 D with
      | none => rfl
      | some o => have z := g4.nw D n2 (by rw [q]; exact fun z => nomatch z); rw [h2] at z; cases z
    by_cases hb : p x = true
    · rw [if_pos hb]
      refine hf hb σ3 G4 H4 g4.gh (en3.mono g4.g) _ fun u G5 H5 g5 r5 => ?_
      have h5 : H5 D = some (.lst ac) := g5.h _ _ h4
      have n5 : G5 D = none := by
        cases q : G5 D with
        | none => rfl
        | some o => have z := g5.nw D n4 (by rw [q]; exact fun z => nomatch z); rw [h4] at z; cases z
      refine ⟨ac, h5, szl (by omega), hlt, G5, ac ++ [u], (e2.trans g4.g).trans g5.g, ((g2.trans g4).trans g5).mut n5 hD0, upd_same, n5, ?_⟩
      rw [et, List.filter_append, List.map_append]
      have e1 : [x].filter p = [x] := by simp [hb]
      rw [e1]
      exact (r2.up (g4.g.trans g5.g)).app (.one r5)
    · rw [if_neg hb]
      refine ⟨hlt, G4, ac, e2.trans g4.g, g2.trans g4, h4, n4, ?_⟩
      rw [et, List.filter_append, List.map_append]
      have e1 : [x].filter p = [] := by simp [hb]
      rw [e1, List.map_nil, List.append_nil]
      exact r2.up g4.g
  · have ei : i = xs.length := by omega
    subst ei
    refine .inl ⟨w2.stop _ G2 H2 (Ex.refl _) g2.gh (Nat.le_refl _), ?_⟩
    rw [List.take_length] at r2
    exact q _ _ G2 H2 g2 h2 n2 hD0 r2
theorem ev_lc {wi : TI} {tt : TT} {vs : List Nat} {xs : List PyData} (p : PyData → Bool) (f : PyData → PyData) (hs : Src K wi ds xs) (hjs : ∀ k ∈ js, k ∈ vs) (hl : xs.length ≤ 1000000)
    (turn : ∀ x ∈ xs, ∃ es, Tgt K g js x (wipeD ds vs) es ∧ EvT K tt es (p x) ∧ (p x = true → Ev K te es (f x))) : Ev K (tLc wi g tt te vs) ds (.list ((xs.filter p).map f)) := (em_lc p f hs hjs hl turn).seal
/-- without a test -/
theorem ev_lcM {wi : TI} {vs : List Nat} {xs : List PyData} (f : PyData → PyData) (hs : Src K wi ds xs) (hjs : ∀ k ∈ js, k ∈ vs) (hl : xs.length ≤ 1000000)
    (turn : ∀ x ∈ xs, ∃ es, Tgt K g js x (wipeD ds vs) es ∧ Ev K te es (f x)) : Ev K (tLc wi g tYes te vs) ds (.list (xs.map f)) := by
  have h := ev_lc (K := K) (ds := ds) (te := te) (g := g) (js := js) (wi := wi) (tt := tYes) (vs := vs) (xs := xs) (fun _ => true) f hs hjs hl fun x hx => by
    obtain ⟨es, h1, h2⟩ := turn x hx
    exact ⟨es, h1, et_yes, fun _ => h2⟩
  have e : xs.filter (fun _ => true) = xs := List.filter_eq_self.mpr fun _ _ => rfl
  rw [e] at h
  exact h
end
end K49

set_option Elab.async false
set_option linter.all false
/-! K49Mir: what the program computes, as plain functions over lists of code points. -/
namespace K49
open PySem
abbrev Tx := List Nat

/-! ### references -/
def DIGS : Tx := [48, 49, 50, 51, 52, 53, 54, 55, 56, 57]
def LETT : Tx := [65, 66, 67, 68, 69, 70, 71, 72, 73, 74, 75, 76, 77, 78, 79, 80, 81, 82, 83, 84, 85, 86, 87, 88, 89, 90,
  97, 98, 99, 100, 101, 102, 103, 104, 105, 106, 107, 108, 109, 110, 111, 112, 113, 114, 115, 116, 117, 118, 119, 120, 121, 122]
def BLNK : Tx := [32, 10]
def CHRS : Tx := [32, 33, 34, 35, 36, 38, 39, 40, 41, 42, 43, 44, 45, 46, 47, 48, 49, 50, 51, 52, 53, 54, 55, 56, 57, 58, 59, 60, 61, 62, 63, 64,
  65, 66, 67, 68, 69, 70, 71, 72, 73, 74, 75, 76, 77, 78, 79, 80, 81, 82, 83, 84, 85, 86, 87, 88, 89, 90, 91, 92, 93, 94, 95, 96,
  97, 98, 99, 100, 101, 102, 103, 104, 105, 106, 107, 108, 109, 110, 111, 112, 113, 114, 115, 116, 117, 118, 119, 120, 121, 122, 123, 124, 125, 126, 10]
def NAMC : Tx := LETT ++ DIGS ++ [45]
def SIGN : Tx := [35, 48, 49, 50, 51, 52, 53, 54, 55, 56, 57, 59, 97, 103, 108, 109, 112, 116]
/-- NAMED: keys and values -/
def NAMD : List (Tx × Tx) := [([38, 59], []), ([38, 108, 116, 59], [60]), ([38, 103, 116, 59], [62]), ([38, 97, 109, 112, 59], [38])]
def isNum (t : Tx) : Bool := if t = [] ∨ 3 < t.length then false else t.all (fun c => decide (c ∈ DIGS))
def chrOf (n : Nat) : Option Tx := if n ∈ CHRS then some [n] else none
/-- the number of a digits' text -/
def numOf (t : Tx) : Nat := NumText.digitsVal t
def refT (t : Tx) : Option Tx :=
  match NAMD.lookup t with
  | some v => some v
  | none => if t.take 2 = [38, 35] ∧ t.drop (t.length - 1) = [59] ∧ isNum ((t.take (t.length - 1)).drop 2) = true then chrOf (numOf ((t.take (t.length - 1)).drop 2)) else none
/-- leads_on, by the number of signs that may still come -/
def leadsF : Nat → Tx → Bool
  | 0, _ => false
  | n + 1, t => if isNum t then (if (chrOf (numOf t)).isSome then true else DIGS.any fun d => leadsF n (t ++ [d])) else false
def leads (t : Tx) : Bool := leadsF 5 t
def isBeg (t : Tx) : Bool :=
  if t = [38] ∨ t = [38, 35] then true
  else if t.take 2 = [38, 35] then leads (t.drop 2)
  else if t = [] then false
  else NAMD.any fun q => decide (q.1 ≠ t) && decide (q.1.take t.length = t)

/-! ### the reader -/
inductive Pl where
  | text | tag | gap | name | equals | bare | double | single | comment | raw
  deriving DecidableEq
def Pl.t : Pl → Tx
  | .text => [116, 101, 120, 116]
  | .tag => [116, 97, 103]
  | .gap => [103, 97, 112]
  | .name => [110, 97, 109, 101]
  | .equals => [101, 113, 117, 97, 108, 115]
  | .bare => [98, 97, 114, 101]
  | .double => [100, 111, 117, 98, 108, 101]
  | .single => [115, 105, 110, 103, 108, 101]
  | .comment => [99, 111, 109, 109, 101, 110, 116]
  | .raw => [114, 97, 119]
structure Sta where
  p : Pl
  el : Tx
  pd : Tx
  deriving DecidableEq
inductive Kd where
  | text | value | comment | raw | tag | fin | name | attr | close
  deriving DecidableEq
def Kd.t : Kd → Tx
  | .text => [116, 101, 120, 116]
  | .value => [118, 97, 108, 117, 101]
  | .comment => [99, 111, 109, 109, 101, 110, 116]
  | .raw => [114, 97, 119]
  | .tag => [116, 97, 103]
  | .fin => [101, 110, 100]
  | .name => [110, 97, 109, 101]
  | .attr => [97, 116, 116, 114, 105, 98, 117, 116, 101]
  | .close => [99, 108, 111, 115, 101]
/-- an item: a text, or the mark with a number -/
inductive Item where
  | tx (t : Tx) | mk (n : Nat)
  deriving DecidableEq
abbrev Evt := Kd × Item
/-- KINDS -/
def Pl.kd : Pl → Option Kd
  | .text => some .text
  | .bare => some .value
  | .double => some .value
  | .single => some .value
  | .comment => some .comment
  | .raw => some .raw
  | _ => none
def Pl.kd! (p : Pl) : Kd := (p.kd).getD .close
def evs (k : Kd) (t : Tx) : List Evt := t.map fun c => (k, .tx [c])
def pendE (s : Sta) : List Evt := evs s.p.kd! s.pd
def settl (s : Sta) : Sta := ⟨s.p, s.el, []⟩
def SCRI : Tx := [115, 99, 114, 105, 112, 116]
def STYL : Tx := [115, 116, 121, 108, 101]
def rawEls : List Tx := [SCRI, STYL]
def start : Sta := ⟨.text, [], []⟩
abbrev Res := Sta × List Evt
def longer (el : Tx) (c : Nat) : Tx := if el ≠ [45] ∧ (SCRI.take (el ++ [c]).length = el ++ [c] ∨ STYL.take (el ++ [c]).length = el ++ [c]) then el ++ [c] else [45]
def stGap (s : Sta) (c : Nat) : Res :=
  if c ∈ BLNK ∨ c = 47 then (s, [])
  else if c ≠ 62 then (⟨.name, s.el, []⟩, [(.attr, .tx [c])])
  else if s.el = [45] then (start, [(.close, .tx [])])
  else (⟨.raw, s.el, []⟩, [(.close, .tx [])])
def stTag (s : Sta) (c : Nat) : Res :=
  if c ∈ NAMC then (⟨.tag, longer s.el c, []⟩, [(.name, .tx [c])])
  else stGap ⟨.gap, if s.el ∈ rawEls then s.el else [45], []⟩ c
def stName (s : Sta) (c : Nat) : Res :=
  if c ∈ BLNK ∨ c ∈ [47, 62] then stGap ⟨.gap, s.el, []⟩ c
  else if c = 61 then (⟨.equals, s.el, []⟩, [])
  else (s, [(.name, .tx [c])])
/-- what a step ends in, or the state in which (behind which events) the sign is read again -/
inductive Nxt where
  | go (r : Res) | again (s : Sta) (e : List Evt)
def settA (s : Sta) : Nxt := .again (settl s) (pendE s)
def stRef (s : Sta) (c : Nat) : Nxt :=
  match refT (s.pd ++ [c]) with
  | some v => .go (settl s, evs s.p.kd! v)
  | none => if isBeg (s.pd ++ [c]) then .go (⟨s.p, s.el, s.pd ++ [c]⟩, []) else settA s
def stText (s : Sta) (c : Nat) : Nxt :=
  if s.pd.take 1 = [38] then stRef s c
  else if s.pd = [] ∧ c ∈ [60, 38] then .go (⟨.text, [], [c]⟩, [])
  else if s.pd = [] then .go (s, [(.text, .tx [c])])
  else if s.pd = [60] ∧ c ∈ LETT then .again ⟨.tag, [], []⟩ [(.tag, .tx [])]
  else if s.pd = [60, 47] ∧ c ∈ LETT then .again ⟨.tag, [45], []⟩ [(.fin, .tx [])]
  else if (s.pd = [60] ∧ c ∈ [47, 33]) ∨ (s.pd = [60, 33] ∧ c = 45) then .go (⟨.text, [], s.pd ++ [c]⟩, [])
  else if s.pd = [60, 33, 45] ∧ c = 45 then .go (⟨.comment, [], []⟩, [(.comment, .tx [])])
  else settA s
def stEq (s : Sta) (c : Nat) : Nxt :=
  if c = 34 then .go (⟨.double, s.el, []⟩, [(.value, .tx [])])
  else if c = 39 then .go (⟨.single, s.el, []⟩, [(.value, .tx [])])
  else if c ∈ BLNK ∨ c = 62 then .go (stGap ⟨.gap, s.el, []⟩ c)
  else .again ⟨.bare, s.el, []⟩ [(.value, .tx [])]
def quote : Pl → Nat
  | .double => 34
  | _ => 39
def stVal (s : Sta) (c : Nat) : Nxt :=
  if s.pd ≠ [] then stRef s c
  else if c = 38 then .go (⟨s.p, s.el, [38]⟩, [])
  else if s.p = .bare ∧ (c ∈ BLNK ∨ c = 62) then .go (stGap ⟨.gap, s.el, []⟩ c)
  else if s.p ≠ .bare ∧ c = quote s.p then .go (⟨.gap, s.el, []⟩, [])
  else .go (s, [(.value, .tx [c])])
def stCom (s : Sta) (c : Nat) : Nxt :=
  if s.pd = [45, 45] ∧ c = 62 then .go (start, [(.close, .tx [])])
  else if s.pd = [45, 45] ∧ c = 45 then .go (s, [(.comment, .tx [45])])
  else if s.pd ≠ [45, 45] ∧ c = 45 then .go (⟨.comment, [], s.pd ++ [45]⟩, [])
  else if s.pd ≠ [] then settA s
  else .go (s, [(.comment, .tx [c])])
def goal (s : Sta) : Tx := [60, 47] ++ s.el
def stRaw (s : Sta) (c : Nat) : Nxt :=
  if s.pd = goal s ∧ (c ∈ BLNK ∨ c ∈ [47, 62]) then .again ⟨.gap, [45], []⟩ ((.fin, .tx []) :: evs .name s.el)
  else if (goal s).take (s.pd ++ [c]).length = s.pd ++ [c] then .go (⟨.raw, s.el, s.pd ++ [c]⟩, [])
  else if s.pd ≠ [] then settA s
  else .go (s, [(.raw, .tx [c])])
def stp1 (s : Sta) (c : Nat) : Nxt :=
  match s.p with
  | .text => stText s c
  | .tag => .go (stTag s c)
  | .gap => .go (stGap s c)
  | .name => .go (stName s c)
  | .equals => stEq s c
  | .bare => stVal s c
  | .double => stVal s c
  | .single => stVal s c
  | .comment => stCom s c
  | .raw => stRaw s c
/-- the second reading goes straight on -/
def stpG (s : Sta) (c : Nat) : Res :=
  match stp1 s c with
  | .go r => r
  | .again _ _ => (s, [])
def stp (s : Sta) (c : Nat) : Res :=
  match stp1 s c with
  | .go r => r
  | .again s' e => ((stpG s' c).1, e ++ (stpG s' c).2)
/-- the reading does not begin again -/
def Calm (s : Sta) (c : Nat) : Prop := ∃ r, stp1 s c = .go r
def finE (s : Sta) : List Evt :=
  (if s.p.kd.isSome then pendE s else []) ++ (if s.p = .text ∨ s.p = .raw then [] else [(.close, .tx [])])
/-- a mark with the number n -/
def mkStp (s : Sta) (n : Nat) : Res :=
  if s.p.kd.isSome then (settl s, pendE s ++ [(s.p.kd!, .mk n)])
  else if s.p = .equals then (⟨.bare, s.el, []⟩, [(.value, .tx []), (.value, .mk n)])
  else if s.p = .tag then (⟨.tag, [45], []⟩, [(.name, .mk n)])
  else if s.p = .gap then (⟨.name, s.el, []⟩, [(.attr, .mk n)])
  else (s, [(.name, .mk n)])
/-- an item of a row: a sign, or a mark -/
inductive Itm where
  | ch (c : Nat) | mk (n : Nat)
def itStp (s : Sta) : Itm → Res
  | .ch c => stp s c
  | .mk n => mkStp s n
def runR (s : Sta) : List Itm → Res
  | [] => (s, [])
  | i :: r => ((runR (itStp s i).1 r).1, (itStp s i).2 ++ (runR (itStp s i).1 r).2)
/-- all events of a row from a state on -/
def evR (s : Sta) (r : List Itm) : List Evt := (runR s r).2 ++ finE (runR s r).1
def itms (t : Tx) : List Itm := t.map .ch

/-! ### tokens -/
structure Tok where
  k : Kd
  its : List Item
  prs : List (List Item × Option (List Item))
/-- the last token gets an item: its last name, or its own items -/
def Tok.add (t : Tok) (i : Item) : Tok :=
  match t.prs.getLast? with
  | some q => { t with prs := t.prs.dropLast ++ [(q.1 ++ [i], q.2)] }
  | none => { t with its := t.its ++ [i] }
def Tok.attr (t : Tok) (i : Item) : Tok := { t with prs := t.prs ++ [([i], none)] }
def Tok.value (t : Tok) (i : Item) : Tok :=
  match t.prs.getLast? with
  | some q => { t with prs := t.prs.dropLast ++ [(q.1, if i = .tx [] then some [] else some (q.2.getD [] ++ [i]))] }
  | none => t
def lastM (f : Tok → Tok) (ts : List Tok) : List Tok :=
  match ts.getLast? with
  | some t => ts.dropLast ++ [f t]
  | none => ts
def take (ts : List Tok) (e : Evt) : List Tok :=
  match e.1 with
  | .text => if (ts.getLast?.map (·.k)) = some .text then lastM (·.add e.2) ts else ts ++ [⟨.text, [e.2], []⟩]
  | .raw => if (ts.getLast?.map (·.k)) = some .raw then lastM (·.add e.2) ts else ts ++ [⟨.raw, [e.2], []⟩]
  | .tag => ts ++ [⟨.tag, [], []⟩]
  | .fin => ts ++ [⟨.fin, [], []⟩]
  | .comment => if e.2 = .tx [] then ts ++ [⟨.comment, [], []⟩] else lastM (·.add e.2) ts
  | .name => lastM (·.add e.2) ts
  | .attr => lastM (·.attr e.2) ts
  | .value => lastM (·.value e.2) ts
  | .close => ts
def build (es : List Evt) : List Tok := es.foldl take []
/-- pieces_of, with the text so far -/
def piecF (acc : Tx) : List Item → List Item
  | [] => if acc = [] then [] else [.tx acc]
  | .tx t :: r => piecF (acc ++ t) r
  | .mk n :: r => (if acc = [] then [] else [.tx acc]) ++ (.mk n :: piecF [] r)
def piec (l : List Item) : List Item := piecF [] l
structure MTok where
  k : Kd
  ps : List Item
  ats : Option (List (List Item × Option (List Item)))
def mkPair (q : List Item × Option (List Item)) : List Item × Option (List Item) := (piec q.1, q.2.map piec)
def mkTok (t : Tok) : MTok := ⟨t.k, piec t.its, if t.k = .tag ∨ t.k = .fin then some (t.prs.map mkPair) else none⟩
def mkToks (es : List Evt) : List MTok := (build es).map mkTok
/-- joined: texts by the mark's number -/
def itT (texts : List Tx) : Item → Tx
  | .tx t => t
  | .mk n => texts.getD n []
def joinT (texts : List Tx) (l : List Item) : Tx := (l.map (itT texts)).flatten
structure FTok where
  k : Kd
  s : Tx
  ats : Option (List (Tx × Option Tx))
  deriving DecidableEq
def flPair (texts : List Tx) (q : List Item × Option (List Item)) : Tx × Option Tx := (joinT texts q.1, q.2.map (joinT texts))
def flTok (texts : List Tx) (t : MTok) : FTok := ⟨t.k, joinT texts t.ps, t.ats.map fun l => l.map (flPair texts)⟩
def FTok.kept (t : FTok) : Bool := t.ats.isSome || decide (t.s ≠ []) || decide (t.k = .comment)
def fills (texts : List Tx) (ts : List MTok) : List FTok := (ts.map (flTok texts)).filter (·.kept)
def readP (page : Tx) : List FTok := fills [] (mkToks (evR start (itms page)))

/-! ### codings -/
def isOpen (s : Sta) : Bool := decide (s.p = .text ∨ s.p = .bare ∨ s.p = .double ∨ s.p = .single ∨ s.p = .equals)
def images : Pl → Tx
  | .text => [38, 60]
  | .double => [34, 38]
  | .single => [38, 39]
  | .bare => [10, 32, 38, 62]
  | .equals => [10, 32, 38, 62]
  | _ => []
def leastR (c : Nat) : Tx :=
  if c = 60 then [38, 108, 116, 59]
  else if c = 62 then [38, 103, 116, 59]
  else [38, 35] ++ TL.numL c ++ [59]
abbrev Cod := Tx × List (Nat × Tx)
def codeO (s : Sta) : Cod := (if s.p = .equals ∨ s.pd ≠ [] then [38, 59] else [], (images s.p).map fun c => (c, leastR c))
def imgOf (im : List (Nat × Tx)) (c : Nat) : Tx := (im.lookup c).getD [c]
def coded (c : Cod) (t : Tx) : Tx := c.1 ++ (t.map (imgOf c.2)).flatten
/-- a need: none is the front text, some c a sign -/
def needL (s : Sta) : List (Option Nat) :=
  if isOpen s then (if (codeO s).1 = [38, 59] then [none] else []) ++ ((images s.p).map some) else []
def complF : Nat → Tx → List Tx → Option Tx
  | 0, _, _ => none
  | n + 1, p, rows =>
    let lg := rows.flatMap fun r => SIGN.map fun c => r ++ [c]
    match lg.find? fun r => (refT (p ++ r)).isSome with
    | some r => some r
    | none => complF n p (lg.filter fun r => isBeg (p ++ r))
def compl (p : Tx) : Tx := (complF 4 p [[]]).getD []
def trialT (s : Sta) (n : Option Nat) : Tx :=
  match n with
  | some c => if c = 60 then [60, 98] else if c = 38 then [38, 108, 116, 59] else [c]
  | none =>
    if s.p = .equals then [34]
    else if s.pd = [60] ∨ s.pd = [60, 47] then [98]
    else if s.pd = [60, 33] then [45, 45]
    else if s.pd = [60, 33, 45] then [45]
    else compl s.pd
def lackOf (s : Sta) (n : Option Nat) : Cod :=
  match n with
  | none => ([], (codeO s).2)
  | some c => ((codeO s).1, (codeO s).2.filter fun q => decide (q.1 ≠ c))
end K49

set_option Elab.async false
set_option linter.all false
set_option maxRecDepth 100000
/-! K49Fx: the text by places, what its top leaves (facts), defs by their bodies. -/
namespace K49
open PySem L2
def topS (i : Nat) : Stmt := PySem.Challenge.pw_samepage_k49_whole_nothing_smaller_works.main.body.getD i (.Pass ⟨0, 0, 0, 0⟩)

/-! ### written dicts with text keys -/
/-- the written dict at a: its keys and values in order -/
structure DictF (K : PySem.W.Frag) (w : World) (a : Addr) (kvs : List (Str × V)) : Prop where
  ex : ∃ es n, KDict K w a es n ∧ Paired (fun (q : Str × V) (e : DictEntry) => (∃ t, e.key = .str q.1 t) ∧ RelV q.2 e.val) kvs es.toList
theorem find_kv : ∀ {kvs : List (Str × V)} {es : List DictEntry} (z : Str), Paired (fun (q : Str × V) (e : DictEntry) => (∃ t, e.key = .str q.1 t) ∧ RelV q.2 e.val) kvs es →
    (∀ v, kvs.lookup z = some v → ∃ e, es.find? (·.key.isStr z) = some e ∧ RelV v e.val) ∧ (kvs.lookup z = none → es.find? (·.key.isStr z) = none) ∧ es.any (·.refKey) = false
  | _, _, z, .nil => ⟨fun v h => by simp at h, fun _ => rfl, rfl⟩
  | (k, v) :: kvs, e :: es, z, .cons ⟨⟨t, hk⟩, hv⟩ r => by
    obtain ⟨h1, h2, h3⟩ := find_kv z r
    have e1 : e.key.isStr z = (z == k) := by
      rw [hk, PySem.W.isStr_of]
      show (k == z) = (z == k)
      by_cases q : z = k
      · rw [q]
      · rw [beq_eq_false_iff_ne.mpr q, beq_eq_false_iff_ne.mpr (fun y => q y.symm)]
    have e2 : e.refKey = false := by unfold DictEntry.refKey; rw [hk]
    refine ⟨fun w hw => ?_, fun hw => ?_, by rw [List.any_cons, e2, h3]; rfl⟩
    · rw [List.lookup_cons] at hw
      rw [List.find?_cons, e1]
      cases q : (z == k) with
      | true => rw [q] at hw; cases hw; exact ⟨e, rfl, hv⟩
      | false => rw [q] at hw; exact h1 w hw
    · rw [List.lookup_cons] at hw
      rw [List.find?_cons, e1]
      cases q : (z == k) with
      | true => rw [q] at hw; cases hw
      | false => rw [q] at hw; exact h2 hw
theorem DictF.ns {K : PySem.W.Frag} {w : World} {a : Addr} {kvs : List (Str × V)} (h : DictF K w a kvs) (z : Str) :
    (∀ v, kvs.lookup z = some v → ∃ u, PySem.W.nsIn K a z = some (some u) ∧ RelV v u) ∧ (kvs.lookup z = none → PySem.W.nsIn K a z = some none) := by
  obtain ⟨es, n, hd, hp⟩ := h.ex
  obtain ⟨h1, h2, h3⟩ := find_kv z hp
  have e0 : PySem.W.nsIn K a z = (match es.toList.find? (·.key.isStr z) with | some e => some (some e.val) | none => if es.toList.any (·.refKey) then none else some none) := by
    unfold PySem.W.nsIn
    rw [hd.at_]
    all_goals rfl
  refine ⟨fun v hv => ?_, fun hv => ?_⟩
  · obtain ⟨e, he, hr⟩ := h1 v hv
    rw [e0, he]
    exact ⟨_, rfl, hr⟩
  · rw [e0, h2 hv, h3]
    rfl
/-- as the head looks at it -/
def kvB (K : PySem.W.Frag) (a : Addr) (kvs : List (Str × He.Dv)) : Bool := match K.lookup a with
  | some ⟨_, _, .dict es _, _⟩ => decide (es.toList.length = kvs.length) && (kvs.zip es.toList).all fun p => p.2.key.isStr p.1.1 && He.relB (p.1.2.v K) p.2.val
  | _ => false
theorem kvB_pair {K : PySem.W.Frag} : ∀ {kvs : List (Str × He.Dv)} {es : List DictEntry}, es.length = kvs.length → ((kvs.zip es).all fun p => p.2.key.isStr p.1.1 && He.relB (p.1.2.v K) p.2.val) = true →
    Paired (fun (q : Str × V) (e : DictEntry) => (∃ t, e.key = .str q.1 t) ∧ RelV q.2 e.val) (kvs.map fun q => (q.1, q.2.v K)) es
  | [], [], _, _ => .nil
  | [], _ :: _, h, _ => by simp at h
  | _ :: _, [], h, _ => by simp at h
  | q :: kvs, e :: es, h, hb => by
    rw [List.zip_cons_cons, List.all_cons, Bool.and_eq_true, Bool.and_eq_true] at hb
    obtain ⟨⟨h1, h2⟩, h3⟩ := hb
    refine .cons ⟨?_, He.relB_ok h2⟩ (kvB_pair (by simpa using h) h3)
    rw [PySem.W.isStr_of] at h1
    exact Value.isStrOf_shape h1
theorem kvB_ok {K : PySem.W.Frag} {w : World} {a : Addr} {kvs : List (Str × He.Dv)} (h : kvB K a kvs = true) (hd : ∃ es n, KDict K w a es n) : DictF K w a (kvs.map fun q => (q.1, q.2.v K)) := by
  obtain ⟨es, n, hd⟩ := hd
  unfold kvB at h
  rw [hd.at_] at h
  obtain ⟨h1, h2⟩ := Bool.and_eq_true_iff.mp h
  exact ⟨es, n, hd, kvB_pair (of_decide_eq_true h1) h2⟩

section
variable {X : Cx}
/-- z in the written dict -/
def rInD (d : Addr) (kvs : List (Str × V)) : R2 := fun x y H Q => ∃ z : Str, x = .str z ∧ y = .ref d ∧ Q (.bl (kvs.lookup z).isSome) H
theorem op_inD {d : Addr} {kvs : List (Str × V)} (h : DictF X.K X.w d kvs) : OpR X (compareOp .In) (rInD d kvs) := by
  intro pins s σ H x y v u Q I rx ry hr
  obtain ⟨z, rfl, rfl, q⟩ := hr
  obtain ⟨es, n, hd, _⟩ := h.ex
  obtain ⟨h1, h2⟩ := h.ns z
  cases e : kvs.lookup z with
  | some v0 =>
    obtain ⟨u0, e1, _⟩ := h1 v0 e
    rw [e] at q
    exact op_in_kd hd pins s σ H _ _ v u Q I rx ry ⟨z, some u0, rfl, rfl, e1, q⟩
  | none =>
    rw [e] at q
    exact op_in_kd hd pins s σ H _ _ v u Q I rx ry ⟨z, none, rfl, rfl, h2 e, q⟩
/-- d[z], the key is there -/
def rGetD (d : Addr) (kvs : List (Str × V)) : R2 := fun x y H Q => ∃ (z : Str) (v : V), x = .ref d ∧ y = .str z ∧ kvs.lookup z = some v ∧ Q v H
theorem ix_D {d : Addr} {kvs : List (Str × V)} (h : DictF X.K X.w d kvs) : IxR X (rGetD d kvs) := by
  intro value slice pins s σ H x y v u Q I rx ry hr hs
  obtain ⟨z, v0, rfl, rfl, e, q⟩ := hr
  obtain ⟨es, n, hd, _⟩ := h.ex
  obtain ⟨u0, e1, r⟩ := (h.ns z).1 v0 e
  exact ix_kdict value slice pins s σ H _ _ v u Q I rx ry ⟨d, z, v0, rfl, rfl, ⟨es, n, u0, hd.at_, hd.lit, e1, r⟩, q⟩ hs
/-- for k in the written dict -/
def Itkd (ks : List Str) : L2.It := ⟨fun i _ => i < ks.length, fun i H v H' => H' = H ∧ ∃ k, ks[i]? = some k ∧ v = .str k, fun i _ => ks.length ≤ i⟩
theorem turn_kd {P : Program} {w : World} {K : PySem.W.Frag} {tg : Expr} {d : Addr} {kvs : List (Str × V)} (it : Addr) {es : Array DictEntry} {n : Nat} (hd : KDict K w d es n)
    (hp : Paired (fun (q : Str × V) (e : DictEntry) => (∃ t, e.key = .str q.1 t) ∧ RelV q.2 e.val) kvs es.toList) : Turn P w K tg (Itkd (kvs.map (·.1))) [it] it (fun i h => h.IsKeyIter it d i es.size n) where
  mem := by simp
  obj := fun i h st b hb => by
    have e : b = it := by simpa using hb
    subst e
    obtain ⟨oi, e, c, dd⟩ := st
    exact ⟨oi, e, fun v z => by rw [dd] at z; cases z⟩
  keep := fun i h h' st k => st.at fun oi e => k it (by simp) oi e
  item := by
    intro X hP hw hK hc i pins s σ H E I hf st hg
    subst hP hw hK
    obtain ⟨f0, f1, f2, f3, f4, f5⟩ := hf it (by simp)
    have hl : kvs.length = es.size := by rw [Paired.length hp, Array.length_toList]
    have hi : i < kvs.length := by have q : i < (kvs.map (·.1)).length := hg; rwa [List.length_map] at q
    obtain ⟨e, he, ⟨t, hk⟩, hv⟩ := paired_get hp (List.getElem?_eq_getElem hi)
    have he' : es[i]? = some e := by rw [← Array.getElem?_toList]; exact he
    refine next_key_item st (I.kIn d _ hd.at_) rfl rfl he' fun h' st' sb => ?_
    have I1 : Inv X pins σ H { s with heap := h' } := I.turned (t' := s.toks) (fun b ob hb e => (sb.2 b hb).trans e) f0 f1 f3 f4 f5
    obtain ⟨oi, e1, c, dd⟩ := id st'
    refine ⟨e.key, rfl, go_of (s := { s with heap := h' }) e1 c dd (by decide) ⟨.str kvs[i].1, H, I1, ⟨t, hk⟩, ⟨rfl, kvs[i].1, ?_, rfl⟩, st', fun b hb => (hf b hb).1⟩⟩
    rw [List.getElem?_map, List.getElem?_eq_getElem hi]
    rfl
  done := by
    intro X hP hw hK hc i pins s σ H E I hf st hg
    subst hP hw hK
    obtain ⟨f0, f1, f2, f3, f4, f5⟩ := hf it (by simp)
    have hl : kvs.length = es.size := by rw [Paired.length hp, Array.length_toList]
    have hi : es.size ≤ i := by have q : (kvs.map (·.1)).length ≤ i := hg; rw [List.length_map] at q; omega
    exact next_key_end (I.ok.hd hc) st (I.kIn d _ hd.at_) rfl rfl hi fun h' eb => ⟨rfl, I.turned (t' := s.toks) (fun b ob hb e => eb b ob hb e) f0 f1 f3 f4 f5⟩
  self := fun A i s Q E st h => wpAny_pyIter_keyiter st h
def iKd (d : Addr) (ks : List Str) (td : TE) : TI := fun σ H R => td σ H fun x H1 => x = .ref d ∧ R (Itkd ks) H1
theorem pi_kd {tg e : Expr} {td : TE} {d : Addr} {kvs : List (Str × V)} (h : DictF X.K X.w d kvs) (he : PE X e td) : PI X tg e (iKd d (kvs.map (·.1)) td) := by
  refine ⟨fun pins s σ H R I hr => ?_⟩
  refine thn (he.run pins s σ H _ I hr) fun u s1 ⟨x, H1, I1, rx, ex, q⟩ => ?_
  subst ex
  obtain rfl : u = Value.ref d := rx
  obtain ⟨es, n, hd, hp⟩ := h.ex
  refine iter_keys hd.low (I1.kIn d _ hd.at_) ⟨rfl, rfl, rfl⟩ rfl (pi_one (tk := s1.toks) I1 _ (turn_kd _ hd hp) ⟨_, Heap.get?_push_size _ rfl, rfl, rfl⟩ q)
end
section
variable {K : PySem.W.Frag} {ds : List (Option PyData)} {te tk : TE} {d : Addr} {kvs : List (Str × V)} {z : Str}
theorem ev_getD {x : PyData} {v : V} (hk : Ev K tk ds (.str z)) (h : kvs.lookup z = some v) (hv : ∀ G, Is K G v x) : Ev K (tOp (rGetD d kvs) (tC (.ref d)) tk) ds x := fun σ G H e en Q q =>
  hk σ G H e en _ fun u G1 H1 g1 r1 => ⟨z, v, rfl, r1.str_, h, q v G1 H1 g1 (hv G1)⟩
theorem ev_inD (hk : Ev K tk ds (.str z)) : Ev K (tOp (rInD d kvs) tk (tC (.ref d))) ds (.bool (kvs.lookup z).isSome) := fun σ G H e en Q q =>
  hk σ G H e en _ fun u G1 H1 g1 r1 => ⟨z, r1.str_, rfl, q _ G1 H1 g1 (.bl _)⟩
theorem src_kd {ks : List Str} : Src K (iKd d ks (tC (.ref d))) ds (ks.map PyData.str) := fun σ G H e en R r => by
  refine ⟨rfl, r _ G H (.refl e) ⟨fun i G2 H2 _ _ hi => ?_, fun i G2 H2 v H3 _ _ hi y => ?_, fun i G2 H2 _ _ hi => ?_⟩⟩
  · show i < ks.length
    rw [List.length_map] at hi; exact hi
  · obtain ⟨e, k, hk, rfl⟩ := y
    exact ⟨e, .str k, by rw [List.getElem?_map, hk]; rfl, .str k⟩
  · show ks.length ≤ i
    rw [List.length_map] at hi; exact hi
end

/-! ### texts as lists of code points -/
abbrev pS (l : Tx) : PyData := .str (SX.S l)
section
variable {K : PySem.W.Frag} {ds : List (Option PyData)} {te ta tb tk : TE}
theorem ev_strS {x : Str} (l : Tx) (h : x = SX.S l := by decide +kernel) : Ev K (tC (.str x)) ds (pS l) := by rw [h]; exact ev_str
theorem dec_S (a b : Tx) : decide (SX.S a = SX.S b) = decide (a = b) := by
  by_cases h : a = b
  · rw [decide_eq_true h, decide_eq_true (congrArg SX.S h)]
  · rw [decide_eq_false h, decide_eq_false (fun z => h (SX.S_inj z))]
theorem rv_eqT {a b : Tx} : RV K rEq (pS a) (pS b) (.bool (decide (a = b))) := by rw [← dec_S]; exact rv_eqS
theorem rv_neT {a b : Tx} : RV K rNe (pS a) (pS b) (.bool (!decide (a = b))) := by rw [← dec_S]; exact rv_neS
theorem rv_inC {c : Nat} {l : Tx} : RV K (fun x y H Q => ∃ (c : Nat) (z : Str), x = .str ⟨#[c]⟩ ∧ y = .str z ∧ Q (.bl (decide (c ∈ z.cps.toList))) H) (pS [c]) (pS l) (.bool (decide (c ∈ l))) := rv_inS
theorem rv_niC {c : Nat} {l : Tx} : RV K (fun x y H Q => ∃ (c : Nat) (z : Str), x = .str ⟨#[c]⟩ ∧ y = .str z ∧ Q (.bl (!decide (c ∈ z.cps.toList))) H) (pS [c]) (pS l) (.bool (!decide (c ∈ l))) := rv_notInS
theorem mem_S (a : Tx) (l : List Tx) : decide (SX.S a ∈ l.map SX.S) = decide (a ∈ l) := by
  have h : SX.S a ∈ l.map SX.S ↔ a ∈ l := ⟨fun z => by
    obtain ⟨b, hb, e⟩ := List.mem_map.mp z
    rw [← SX.S_inj e]; exact hb, fun z => List.mem_map.mpr ⟨a, z, rfl⟩⟩
  by_cases q : a ∈ l
  · rw [decide_eq_true q, decide_eq_true (h.mpr q)]
  · rw [decide_eq_false q, decide_eq_false (fun z => q (h.mp z))]
theorem rv_inTs {a : Tx} (l : List Tx) {m : List PyData} (hm : m = l.map pS := by rfl) : RV K (rIn K false) (pS a) (.tuple m) (.bool (decide (a ∈ l))) := by
  have h := rv_inT (K := K) (a := SX.S a) (l := l.map SX.S) (neg := false)
  rw [List.map_map] at h
  rw [hm, ← mem_S]; exact h
theorem rv_niTs {a : Tx} (l : List Tx) {m : List PyData} (hm : m = l.map pS := by rfl) : RV K (rIn K true) (pS a) (.tuple m) (.bool (!decide (a ∈ l))) := by
  have h := rv_inT (K := K) (a := SX.S a) (l := l.map SX.S) (neg := true)
  rw [List.map_map] at h
  rw [hm, ← mem_S]; exact h
theorem rv_niLs {a : Tx} (l : List Tx) {m : List PyData} (hm : m = l.map pS := by rfl) : RV K (rIn K true) (pS a) (.list m) (.bool (!decide (a ∈ l))) := by
  have h := rv_inL (K := K) (a := SX.S a) (l := l.map SX.S) (neg := true)
  rw [List.map_map] at h
  rw [hm, ← mem_S]; exact h
theorem rv_addI {i j : Int} : RV K (rI0 fun i j => .int (i + j)) (.int i) (.int j) (.int (i + j)) := rv_I0 fun _ => .int _
theorem rv_ltI {i j : Int} : RV K (rI0 fun i j => .bl (decide (i < j))) (.int i) (.int j) (.bool (decide (i < j))) := rv_I0 fun _ => .bl _
theorem rv_gtI {i j : Int} : RV K (rI0 fun i j => .bl (decide (j < i))) (.int i) (.int j) (.bool (decide (j < i))) := rv_I0 fun _ => .bl _
theorem rv_geI {i j : Int} : RV K (rI0 fun i j => .bl (decide (j ≤ i))) (.int i) (.int j) (.bool (decide (j ≤ i))) := rv_I0 fun _ => .bl _
end

/-! ### defs -/
/-- the def x stands at its name -/
def Df (K : PySem.W.Frag) (mg : Str → Option Value) (x : Str) (st : Stmt) : Prop := ∃ fd, FunD K x x (defArgs st) (defBody st) (defScope st) [] [] (He.ga K x) fd ∧ mg x = some (.ref (He.ga K x))
section
variable {P : Program} {w : World} {K : PySem.W.Frag} {mg : Str → Option Value} {base : Heap}
abbrev CalR (P : Program) (w : World) (K : PySem.W.Frag) (mg : Str → Option Value) (base : Heap) (k : Nat) (x : Str) (R : List PyData → PyData → Prop) : Prop := C8.Cal P w K mg base k x (spR K R) []
theorem start_env {G : Hp} {N : List Str} {vs : List V} {l : List PyData} (hl : IsL K G vs l) : EnvI K G (L2.start N vs) (l.map some ++ List.replicate (N.length - l.length) none) := by
  unfold L2.start
  have any : ∀ n, EnvI K G (List.replicate n none) (List.replicate n none) := fun n => by
    induction n with
    | zero => exact .nil
    | succ n ih => exact .any none ih
  have app : ∀ (vs : List V) (l : List PyData) (n : Nat), IsL K G vs l → EnvI K G (vs.map some ++ List.replicate n none) (l.map some ++ List.replicate n none) := by
    intro vs l n
    induction l generalizing vs with
    | nil => intro h; cases h; exact any n
    | cons d l ih =>
      intro h
      cases h with
      | cons h1 h2 => exact .val h1 (ih _ h2)
  rw [hl.len]
  exact app vs l _ hl
/-- a def that changes nothing keeps its promise, by its body -/
theorem cal_of {x : Str} {st : Stmt} {N ps : List Str} {k : Nat} {R : List PyData → PyData → Prop} (df : Df K mg x st) (S : FnScope N ps (defScope st))
    (hb : ∀ (kV doc pm : Value) (an : Option Addr) (cdv ct : Value) (us : List Value), us.length = ps.length → bindArgs (PySem.W.fnOf x x (defArgs st) (defBody st) (defScope st) .none kV doc pm an cdv ct) ⟨us, []⟩ = pure (ps.zip us))
    (hR : ∀ l d, R l d → l.length = ps.length)
    (body : ∀ (f : Addr) (cdv : Value) (A : Around) (outer : List Env) (s : Shared) (H : Hp) (E : XK), Room k (A.deeper (PyProof.Rows.envOfC x (defScope st) s.heap.objs.size f cdv)) →
      ∃ t, PSs (cxOf CX0 P w K mg base N x (defScope st) f cdv A outer s H E).nox (defBody st) t ∧ ∀ l d, R l d → SD K t (l.map some ++ List.replicate (N.length - l.length) none) none (.ret d)) : CalR P w K mg base (k + 1) x R := by
  obtain ⟨fd, F, hm⟩ := df
  have ok : FnOk P w K mg base CX0 (k + 1) (He.ga K x) fd ps (spR K R) := by
    refine F.ok S (fun vs H Q E h => ?_) (fun cdv A outer s H vs Q E hr h => ?_)
    · obtain ⟨G, l, d, _, hl, hr, _⟩ := h
      rw [hl.len, hR l d hr]
    · obtain ⟨G, l, d, e, hl, hr', q⟩ := h
      obtain ⟨t, ht, hs⟩ := body _ cdv A outer s H E hr
      refine ⟨t, ht.nox, hs l d hr' _ G H G H _ ⟨.refl e, ?_, trivial⟩ fun v G' H' g r => q v G' H' g r⟩
      exact start_env hl
  exact ⟨_, fd, ps, [], ok, hm, F.kp, F.bindsN hb, .nil⟩
/-- a weaker promise; none at all -/
theorem cal_imp {x : Str} {k : Nat} {R R' : List PyData → PyData → Prop} (c : CalR P w K mg base k x R) (h : ∀ l d, R' l d → R l d) : CalR P w K mg base k x R' := by
  obtain ⟨f, fd, ps, ds, ok, hm, hk, hb, hd⟩ := c.ex
  exact ⟨f, fd, ps, ds, ok.imp fun vs H Q E ⟨G, l, d, e, hl, hr, q⟩ => ⟨G, l, d, e, hl, h l d hr, q⟩, hm, hk, hb, hd⟩
theorem cal_none {x : Str} {st : Stmt} {ps : List Str} (df : Df K mg x st)
    (hb : ∀ (kV doc pm : Value) (an : Option Addr) (cdv ct : Value) (us : List Value), us.length = ps.length → bindArgs (PySem.W.fnOf x x (defArgs st) (defBody st) (defScope st) .none kV doc pm an cdv ct) ⟨us, []⟩ = pure (ps.zip us)) :
    CalR P w K mg base 0 x (fun _ _ => False) := by
  obtain ⟨fd, F, hm⟩ := df
  exact ⟨_, fd, ps, [], ⟨fun vs H Q E ⟨_, _, _, _, _, z, _⟩ => z.elim, fun A outer s H args us vs Q E _ _ _ _ ⟨_, _, _, _, _, z, _⟩ => z.elim⟩, hm, F.kp, F.bindsN hb, .nil⟩
end
end K49

set_option Elab.async false
set_option linter.all false
set_option maxRecDepth 100000
/-! K49Txt: the defs of the text by name, and the facts that the walk leans on. -/
namespace K49
open PySem L2

abbrev s_pieces_of : Stmt := topS 6
abbrev s_marked_pair : Stmt := topS 8
abbrev s_marked_tokens : Stmt := topS 9
abbrev s_joined : Stmt := topS 10
abbrev s_filled_pair : Stmt := topS 11
abbrev s_filled_tokens : Stmt := topS 12
abbrev s_token_pieces : Stmt := topS 15
abbrev s_marks_of : Stmt := topS 16
abbrev s_fill : Stmt := topS 17
abbrev s_is_open : Stmt := topS 18
abbrev s_is_number : Stmt := topS 26
abbrev s_character_of : Stmt := topS 27
abbrev s_reference_text : Stmt := topS 28
abbrev s_leads_on : Stmt := topS 29
abbrev s_is_beginning : Stmt := topS 30
abbrev s_least_reference : Stmt := topS 31
abbrev s_is_admissible : Stmt := topS 35
abbrev s_coding : Stmt := topS 36
abbrev s_image_of : Stmt := topS 37
abbrev s_coded : Stmt := topS 38
abbrev s_is_smaller : Stmt := topS 39
abbrev s_needs : Stmt := topS 43
abbrev s_completion : Stmt := topS 44
abbrev s_trial : Stmt := topS 45
abbrev s_pending_events : Stmt := topS 52
abbrev s_settled : Stmt := topS 53
abbrev s_read_again : Stmt := topS 54
abbrev s_settle_and_read : Stmt := topS 55
abbrev s_step_reference : Stmt := topS 56
abbrev s_step_text : Stmt := topS 57
abbrev s_longer_name : Stmt := topS 58
abbrev s_step_tag : Stmt := topS 59
abbrev s_step_gap : Stmt := topS 60
abbrev s_step_name : Stmt := topS 61
abbrev s_step_equals : Stmt := topS 62
abbrev s_step_value : Stmt := topS 63
abbrev s_step_comment : Stmt := topS 64
abbrev s_step_raw : Stmt := topS 65
abbrev s_step : Stmt := topS 67
abbrev s_finish : Stmt := topS 68
abbrev s_mark_step : Stmt := topS 70
abbrev s_item_step : Stmt := topS 71
abbrev s_marked_events : Stmt := topS 72
abbrev s_state_after : Stmt := topS 73
abbrev s_read_row : Stmt := topS 74
abbrev s_events : Stmt := topS 76
abbrev s_read : Stmt := topS 77
abbrev s__law_draws : Stmt := topS 79
abbrev s__law_at : Stmt := topS 80
abbrev s__law_is_integer : Stmt := topS 81
abbrev s__law_is_row : Stmt := topS 82
abbrev s__law_row : Stmt := topS 83
abbrev s_law : Stmt := topS 84
abbrev s_Builder___init__ : Stmt := inClass (topS 7) 0
abbrev s_Builder_begin : Stmt := inClass (topS 7) 1
abbrev s_Builder_attribute : Stmt := inClass (topS 7) 2
abbrev s_Builder_value : Stmt := inClass (topS 7) 3
abbrev s_Builder_take : Stmt := inClass (topS 7) 4

/-! ### tables -/
def opens : List Tx := [Pl.t .text, Pl.t .bare, Pl.t .double, Pl.t .single, Pl.t .equals]
def startL : List Tx := [Pl.t .text, [], []]
def IMGL : List (Tx × Tx) := [(Pl.t .text, images .text), (Pl.t .double, images .double), (Pl.t .single, images .single), (Pl.t .bare, images .bare), (Pl.t .equals, images .equals), (Pl.t .raw, [])]
def STAL : List (Tx × Tx) := [([60], [98]), ([60, 47], [98]), ([60, 33], [45, 45]), ([60, 33, 45], [45])]
def KNDL : List (Tx × Tx) := [(Pl.t .text, Kd.t .text), (Pl.t .bare, Kd.t .value), (Pl.t .double, Kd.t .value), (Pl.t .single, Kd.t .value), (Pl.t .comment, Kd.t .comment), (Pl.t .raw, Kd.t .raw)]
def QUOL : List (Tx × Tx) := [(Pl.t .double, [34]), (Pl.t .single, [39])]
def STPL : List (Tx × String) := [(Pl.t .text, "step_text"), (Pl.t .tag, "step_tag"), (Pl.t .gap, "step_gap"), (Pl.t .name, "step_name"), (Pl.t .equals, "step_equals"), (Pl.t .bare, "step_value"), (Pl.t .double, "step_value"), (Pl.t .single, "step_value"), (Pl.t .comment, "step_comment"), (Pl.t .raw, "step_raw")]
def dS (l : List (Tx × Tx)) : List (Str × V) := l.map fun q => (SX.S q.1, V.str (SX.S q.2))
def dR (K : PySem.W.Frag) (l : List (Tx × String)) : List (Str × V) := l.map fun q => (SX.S q.1, V.ref (He.ga K (Str.ofString q.2)))
theorem beqS (a b : Tx) : (SX.S a == SX.S b) = (a == b) := SX.S_beq a b
theorem dS_look (k : Tx) : ∀ l : List (Tx × Tx), (dS l).lookup (SX.S k) = (l.lookup k).map fun v => V.str (SX.S v)
  | [] => rfl
  | (a, b) :: l => by
    have ih := dS_look k l
    unfold dS at ih ⊢
    rw [List.map_cons, List.lookup_cons, List.lookup_cons, beqS]
    cases k == a with
    | true => rfl
    | false => exact ih
theorem dR_look (K : PySem.W.Frag) (k : Tx) : ∀ l : List (Tx × String), (dR K l).lookup (SX.S k) = (l.lookup k).map fun v => V.ref (He.ga K (Str.ofString v))
  | [] => rfl
  | (a, b) :: l => by
    have ih := dR_look K k l
    unfold dR at ih ⊢
    rw [List.map_cons, List.lookup_cons, List.lookup_cons, beqS]
    cases k == a with
    | true => rfl
    | false => exact ih

/-! ### the facts -/
structure Fx (K : PySem.W.Frag) (w : World) (mg : Str → Option Value) : Prop where
  b_abs : mg "abs" = none
  b_int : mg "int" = none
  b_isinstance : mg "isinstance" = none
  b_len : mg "len" = none
  b_list : mg "list" = none
  b_min : mg "min" = none
  b_ord : mg "ord" = none
  b_range : mg "range" = none
  b_sorted : mg "sorted" = none
  b_str : mg "str" = none
  s_CHARACTERS : ∃ u, mg "CHARACTERS" = some u ∧ RelV (.str (SX.S CHRS)) u
  s_DIGITS : ∃ u, mg "DIGITS" = some u ∧ RelV (.str (SX.S DIGS)) u
  s_LETTERS : ∃ u, mg "LETTERS" = some u ∧ RelV (.str (SX.S LETT)) u
  s_BLANKS : ∃ u, mg "BLANKS" = some u ∧ RelV (.str (SX.S BLNK)) u
  s_EMPTY : ∃ u, mg "EMPTY" = some u ∧ RelV (.str (SX.S [38, 59])) u
  s_SIGNS : ∃ u, mg "SIGNS" = some u ∧ RelV (.str (SX.S SIGN)) u
  s_NAME_CHARACTERS : ∃ u, mg "NAME_CHARACTERS" = some u ∧ RelV (.str (SX.S NAMC)) u
  i_MOST_DIGITS : ∃ u, mg "MOST_DIGITS" = some u ∧ RelV (.int 3) u
  g_OPEN_PLACES : ∃ u, mg "OPEN_PLACES" = some u ∧ RelV (.ref (He.ga K "OPEN_PLACES")) u
  g_START : ∃ u, mg "START" = some u ∧ RelV (.ref (He.ga K "START")) u
  g_RAW_ELEMENTS : ∃ u, mg "RAW_ELEMENTS" = some u ∧ RelV (.ref (He.ga K "RAW_ELEMENTS")) u
  g_NAMED : ∃ u, mg "NAMED" = some u ∧ RelV (.ref (He.ga K "NAMED")) u
  g_IMAGES : ∃ u, mg "IMAGES" = some u ∧ RelV (.ref (He.ga K "IMAGES")) u
  g_STARTS : ∃ u, mg "STARTS" = some u ∧ RelV (.ref (He.ga K "STARTS")) u
  g_KINDS : ∃ u, mg "KINDS" = some u ∧ RelV (.ref (He.ga K "KINDS")) u
  g_QUOTES : ∃ u, mg "QUOTES" = some u ∧ RelV (.ref (He.ga K "QUOTES")) u
  g_STEPS : ∃ u, mg "STEPS" = some u ∧ RelV (.ref (He.ga K "STEPS")) u
  t_OPEN_PLACES : ∀ H : Hp, SqT K H (He.ga K "OPEN_PLACES") (opens.map fun l => V.str (SX.S l))
  t_START : ∀ H : Hp, SqT K H (He.ga K "START") (startL.map fun l => V.str (SX.S l))
  t_RAW_ELEMENTS : ∀ H : Hp, SqT K H (He.ga K "RAW_ELEMENTS") (rawEls.map fun l => V.str (SX.S l))
  d_NAMED : DictF K w (He.ga K "NAMED") (dS NAMD)
  d_IMAGES : DictF K w (He.ga K "IMAGES") (dS IMGL)
  d_STARTS : DictF K w (He.ga K "STARTS") (dS STAL)
  d_KINDS : DictF K w (He.ga K "KINDS") (dS KNDL)
  d_QUOTES : DictF K w (He.ga K "QUOTES") (dS QUOL)
  d_STEPS : DictF K w (He.ga K "STEPS") (dR K STPL)
  f_pieces_of : Df K mg "pieces_of" s_pieces_of
  f_marked_pair : Df K mg "marked_pair" s_marked_pair
  f_marked_tokens : Df K mg "marked_tokens" s_marked_tokens
  f_joined : Df K mg "joined" s_joined
  f_filled_pair : Df K mg "filled_pair" s_filled_pair
  f_filled_tokens : Df K mg "filled_tokens" s_filled_tokens
  f_token_pieces : Df K mg "token_pieces" s_token_pieces
  f_marks_of : Df K mg "marks_of" s_marks_of
  f_fill : Df K mg "fill" s_fill
  f_is_open : Df K mg "is_open" s_is_open
  f_is_number : Df K mg "is_number" s_is_number
  f_character_of : Df K mg "character_of" s_character_of
  f_reference_text : Df K mg "reference_text" s_reference_text
  f_leads_on : Df K mg "leads_on" s_leads_on
  f_is_beginning : Df K mg "is_beginning" s_is_beginning
  f_least_reference : Df K mg "least_reference" s_least_reference
  f_is_admissible : Df K mg "is_admissible" s_is_admissible
  f_coding : Df K mg "coding" s_coding
  f_image_of : Df K mg "image_of" s_image_of
  f_coded : Df K mg "coded" s_coded
  f_is_smaller : Df K mg "is_smaller" s_is_smaller
  f_needs : Df K mg "needs" s_needs
  f_completion : Df K mg "completion" s_completion
  f_trial : Df K mg "trial" s_trial
  f_pending_events : Df K mg "pending_events" s_pending_events
  f_settled : Df K mg "settled" s_settled
  f_read_again : Df K mg "read_again" s_read_again
  f_settle_and_read : Df K mg "settle_and_read" s_settle_and_read
  f_step_reference : Df K mg "step_reference" s_step_reference
  f_step_text : Df K mg "step_text" s_step_text
  f_longer_name : Df K mg "longer_name" s_longer_name
  f_step_tag : Df K mg "step_tag" s_step_tag
  f_step_gap : Df K mg "step_gap" s_step_gap
  f_step_name : Df K mg "step_name" s_step_name
  f_step_equals : Df K mg "step_equals" s_step_equals
  f_step_value : Df K mg "step_value" s_step_value
  f_step_comment : Df K mg "step_comment" s_step_comment
  f_step_raw : Df K mg "step_raw" s_step_raw
  f_step : Df K mg "step" s_step
  f_finish : Df K mg "finish" s_finish
  f_mark_step : Df K mg "mark_step" s_mark_step
  f_item_step : Df K mg "item_step" s_item_step
  f_marked_events : Df K mg "marked_events" s_marked_events
  f_state_after : Df K mg "state_after" s_state_after
  f_read_row : Df K mg "read_row" s_read_row
  f_events : Df K mg "events" s_events
  f_read : Df K mg "read" s_read
  f__law_draws : Df K mg "_law_draws" s__law_draws
  f__law_at : Df K mg "_law_at" s__law_at
  f__law_row : Df K mg "_law_row" s__law_row
  f_law : Df K mg "law" s_law
  g_Builder : mg "Builder" = some (.ref (He.ga K "Builder"))
  cl : Cls K (He.ga K "Builder")
  nT : NoAttr K (He.ga K "Builder") "tokens"
  nG : NoAttr K (He.ga K "Builder") "target"
  mkr : Mk K (He.ga K "Builder") (He.ma K (He.ga K "Builder") "__init__")
  k___init__ : ∃ fd, FunD K "__init__" "Builder.__init__" (defArgs s_Builder___init__) (defBody s_Builder___init__) (defScope s_Builder___init__) [] [] (He.ma K (He.ga K "Builder") "__init__") fd
  m_begin : Meth K (He.ga K "Builder") "begin" (He.ma K (He.ga K "Builder") "begin")
  k_begin : ∃ fd, FunD K "begin" "Builder.begin" (defArgs s_Builder_begin) (defBody s_Builder_begin) (defScope s_Builder_begin) [] [] (He.ma K (He.ga K "Builder") "begin") fd
  m_attribute : Meth K (He.ga K "Builder") "attribute" (He.ma K (He.ga K "Builder") "attribute")
  k_attribute : ∃ fd, FunD K "attribute" "Builder.attribute" (defArgs s_Builder_attribute) (defBody s_Builder_attribute) (defScope s_Builder_attribute) [] [] (He.ma K (He.ga K "Builder") "attribute") fd
  m_value : Meth K (He.ga K "Builder") "value" (He.ma K (He.ga K "Builder") "value")
  k_value : ∃ fd, FunD K "value" "Builder.value" (defArgs s_Builder_value) (defBody s_Builder_value) (defScope s_Builder_value) [] [] (He.ma K (He.ga K "Builder") "value") fd
  m_take : Meth K (He.ga K "Builder") "take" (He.ma K (He.ga K "Builder") "take")
  k_take : ∃ fd, FunD K "take" "Builder.take" (defArgs s_Builder_take) (defBody s_Builder_take) (defScope s_Builder_take) [] [] (He.ma K (He.ga K "Builder") "take") fd
section
variable {K : PySem.W.Frag} {w : World} {mg : Str → Option Value}
theorem IsL.of_S (K : PySem.W.Frag) (G : Hp) : ∀ l : List Tx, IsL K G (l.map fun l => V.str (SX.S l)) (l.map pS)
  | [] => .nil
  | x :: l => .cons (.str _) (IsL.of_S K G l)
theorem Fx.v_OPEN_PLACES (T : Fx K w mg) (G : Hp) : Is K G (.ref (He.ga K "OPEN_PLACES")) (.tuple (opens.map pS)) := .tup (T.t_OPEN_PLACES G) (IsL.of_S K G _)
theorem Fx.v_START (T : Fx K w mg) (G : Hp) : Is K G (.ref (He.ga K "START")) (.tuple (startL.map pS)) := .tup (T.t_START G) (IsL.of_S K G _)
theorem Fx.v_RAW_ELEMENTS (T : Fx K w mg) (G : Hp) : Is K G (.ref (He.ga K "RAW_ELEMENTS")) (.tuple (rawEls.map pS)) := .tup (T.t_RAW_ELEMENTS G) (IsL.of_S K G _)
end

/-! ### data of the mirror -/
def Sta.d (s : Sta) : PyData := .tuple [pS s.p.t, pS s.el, pS s.pd]
def Item.d : Item → PyData
  | .tx t => pS t
  | .mk n => .int n
def evD (e : Evt) : PyData := .tuple [pS e.1.t, e.2.d]
def evsD (es : List Evt) : PyData := .list (es.map evD)
def Res.d (r : Res) : PyData := .tuple [r.1.d, evsD r.2]
def optD : Option Tx → PyData
  | some t => pS t
  | none => .none
def codD (c : Cod) : PyData := .tuple [pS c.1, .list (c.2.map fun q => .tuple [pS [q.1], pS q.2])]
end K49

set_option Elab.async false
set_option linter.all false
set_option maxRecDepth 100000
/-! K49Ru: further rules over the data layer. -/
namespace K49
open PySem L2
section
variable {K : PySem.W.Frag} {ds es : List (Option PyData)} {acc acc' : Option (Nat × List PyData)} {o : Out} {t t1 t2 tb u : TS} {te ta tl th : TE} {d x : PyData} {g : TG} {js : List Nat}
theorem ix_tupK {X : Cx} (h : X.K = K) : IxR X (rIxT K) := h ▸ ix_tup
theorem ix_listK {X : Cx} (h : X.K = K) : IxR X (rIxL K) := h ▸ ix_list
theorem in_seqK {X : Cx} (h : X.K = K) : OpR X (compareOp .In) (rIn K false) := h ▸ op_in_seq
theorem notIn_seqK {X : Cx} (h : X.K = K) : OpR X (compareOp .NotIn) (rIn K true) := h ▸ op_notIn_seq
theorem call_lenK {X : Cx} (h : X.K = K) : CallR X (.builtin "len") (fun xs H Q => ∃ x n, xs = [x] ∧ LenV K x H n ∧ Q (.int n) H) := h ▸ call_len
theorem call_isiK' {X : Cx} (h : X.K = K) : CallR X (.builtin "isinstance") (rIsi K) := h ▸ call_isi
theorem pg_tupK {X : Cx} (h : X.K = K) {es : List Expr} {k : Nat} {t : TGs} {n : Nat} {pos : Pos} (hc : X.calm = true) (hg : PGs X es t)
    (hn : (assignEach es X.env).length = n := by rfl) (hst : (assignEach es X.env).findIdx? (·.1) = none := by rfl) : PG X (.Tuple es k pos) (gTup K n t) := h ▸ pg_tup hc hg hn hst
theorem pi_listK {X : Cx} (h : X.K = K) {tg l : Expr} {tl : TE} (hl : PE X l tl) : PI X tg l (iList K tl) := h ▸ pi_list hl
theorem pi_tupK {X : Cx} (h : X.K = K) {tg l : Expr} {tl : TE} (hl : PE X l tl) : PI X tg l (iTup K tl) := h ▸ pi_tup hl
/-! ### slices by lists -/
theorem ev_slTo {a : Tx} {k : Nat} {th : TO} (h : Ev K te ds (pS a)) (h2 : EvO K th ds (some (k : Int))) (hl : a.length ≤ 2000000) : Ev K (tSl rSlS te tNoPart th) ds (pS (a.take k)) := by
  have q := ev_slS h eo_none h2 hl
  rw [cut_to] at q
  exact q
theorem ev_slFrom {a : Tx} {k : Nat} {tl : TO} (h : Ev K te ds (pS a)) (h2 : EvO K tl ds (some (k : Int))) (hl : a.length ≤ 2000000) : Ev K (tSl rSlS te tl tNoPart) ds (pS (a.drop k)) := by
  have q := ev_slS h h2 eo_none hl
  rw [cut_from] at q
  exact q
theorem ev_slLast {a : Tx} {tl : TO} (h : Ev K te ds (pS a)) (h2 : EvO K tl ds (some (-1))) (hl : a.length ≤ 2000000) : Ev K (tSl rSlS te tl tNoPart) ds (pS (a.drop (a.length - 1))) := by
  have q := ev_slS h h2 eo_none hl
  rw [cut_last] at q
  exact q
theorem ev_slMid {a : Tx} {k : Nat} {tl th : TO} (h : Ev K te ds (pS a)) (h1 : EvO K tl ds (some (k : Int))) (h2 : EvO K th ds (some (-1))) (hl : a.length ≤ 2000000) : Ev K (tSl rSlS te tl th) ds (pS ((a.take (a.length - 1)).drop k)) := by
  have q := ev_slS h h1 h2 hl
  rw [cut_mid] at q
  exact q
theorem ev_neg {i : Int} (h : Ev K te ds (.int i)) : Ev K (tUn (rU fun i => .int (-i)) te) ds (.int (-i)) := fun σ G H e en Q q =>
  h σ G H e en _ fun v G1 H1 g1 r1 => ⟨i, r1.int_, q _ G1 H1 g1 (.int _)⟩
theorem ev_ord {c : Nat} (h : Ev K te ds (pS [c])) : Ev K (tCB (fun xs H Q => ∃ x, xs = [.str x] ∧ x.length = 1 ∧ Q (.int (x.cps.getD 0 0 : Nat)) H) (tCons te tNil)) ds (.int (c : Int)) := fun σ G H e en Q q =>
  h σ G H e en _ fun v G1 H1 g1 r1 => by
    rw [r1.str_]
    exact ⟨_, rfl, rfl, q _ G1 H1 g1 (.int _)⟩
theorem isNum_all {a : Tx} (h : isNum a = true) : a.all (fun c => decide (48 ≤ c) && decide (c ≤ 57)) = true ∧ a ≠ [] ∧ a.length ≤ 3 := by
  unfold isNum at h
  by_cases q : a = [] ∨ 3 < a.length
  · rw [if_pos q] at h; cases h
  · rw [if_neg q] at h
    rw [not_or] at q
    refine ⟨List.all_eq_true.mpr fun c hc => ?_, q.1, by omega⟩
    have z := of_decide_eq_true (List.all_eq_true.mp h c hc)
    simp only [DIGS, List.mem_cons, List.not_mem_nil, or_false] at z
    simp only [Bool.and_eq_true, decide_eq_true_eq]
    omega
theorem ev_intS {a : Tx} (h : Ev K te ds (pS a)) (hn : isNum a = true) : Ev K (tCB (fun xs H Q => ∃ a n, xs = [.str a] ∧ PySem.intText? a = some n ∧ a.length ≤ 640 ∧ Q (.int n) H) (tCons te tNil)) ds (.int (numOf a : Nat)) := fun σ G H e en Q q =>
  h σ G H e en _ fun v G1 H1 g1 r1 => by
    rw [r1.str_]
    obtain ⟨h1, h2, h3⟩ := isNum_all hn
    exact ⟨_, _, rfl, SX.int_S h1 h2 (by omega), by rw [SX.S_len]; omega, q _ G1 H1 g1 (.int _)⟩
theorem ev_intI {i : Int} (h : Ev K te ds (.int i)) : Ev K (tCB (fun xs H Q => (∃ i, xs = [.int i] ∧ Q (.int i) H) ∨ ∃ k, xs = [.bl k] ∧ Q (.int (if k then 1 else 0)) H) (tCons te tNil)) ds (.int i) := fun σ G H e en Q q =>
  h σ G H e en _ fun v G1 H1 g1 r1 => by
    rw [r1.int_]
    exact .inl ⟨i, rfl, q _ G1 H1 g1 (.int _)⟩
theorem ev_strI {n : Nat} (h : Ev K te ds (.int (n : Int))) (hn : n < 1000000) : Ev K (tCB (fun xs H Q => ∃ i, xs = [.int i] ∧ i.natAbs.log2 < 1920 ∧ Q (.str (toString i)) H) (tCons te tNil)) ds (pS (TL.numL n)) := fun σ G H e en Q q =>
  h σ G H e en _ fun v G1 H1 g1 r1 => by
    rw [r1.int_]
    refine ⟨_, rfl, ?_, ?_⟩
    · show ((n : Int).natAbs).log2 < 1920
      rw [Int.natAbs_natCast]
      by_cases h0 : n = 0
      · subst h0; decide
      · exact (Nat.log2_lt h0).mpr (Nat.lt_of_lt_of_le hn (by decide))
    · have e1 : (Str.ofString (toString (n : Int))) = SX.S (TL.numL n) := SX.num_S n
      show Q (.str (Str.ofString (toString (n : Int)))) _
      rw [e1]
      exact q _ G1 H1 g1 (.str _)
theorem ev_listL {l : List PyData} (h : Ev K te ds (.list l)) : Ev K (tCB (fun xs H Q => ∃ p ys, xs = [.ref p] ∧ (SqL K H p ys ∨ SqT K H p ys) ∧ ∀ l, H l = none → Q (.ref l) (upd H l (.lst ys))) (tCons te tNil)) ds (.list l) := fun σ G H e en Q q =>
  h σ G H e en _ fun v G1 H1 g1 r1 => by
    cases r1 with
    | lst h1 h2 => exact ⟨_, _, rfl, .inl (.of (g1.gh _ _ h1)), fun p hp => q _ _ _ (g1.trans (.lay g1.gh _ hp)) (.lst upd_same (h2.up (Ex.new (g1.gh.non_ hp))))⟩
theorem rv_neI {a b : Int} : RV K rNe (.int a) (.int b) (.bool (!decide (a = b))) := rv_pure (f := .bl (!decide (a = b))) (fun _ => .bl _) fun G H v w hv hw Q q => by
  rw [hv.int_, hw.int_]
  refine ⟨rfl, ?_⟩
  have e : decide (V.int a = V.int b) = decide (a = b) := by
    by_cases h : a = b
    · rw [decide_eq_true h, decide_eq_true (congrArg V.int h)]
    · rw [decide_eq_false h, decide_eq_false (fun z => h (V.int.inj z))]
  rw [e]; exact q
/-- the value in a written table -/
theorem lookG {l : List (Tx × Tx)} {k : Tx} (h : ((dS l).lookup (SX.S k)).isSome = true) : (dS l).lookup (SX.S k) = some (V.str (SX.S ((l.lookup k).getD []))) := by
  rw [dS_look] at h ⊢
  cases e : l.lookup k with
  | none => rw [e] at h; cases h
  | some v => rfl

/-! ### loops that seek -/
theorem Wk.set {o : Option PyData} : ∀ {ds : List (Option PyData)} {i : Nat}, ds[i]? = some none → Wk (ds.set i o) ds
  | [], _, h => by simp at h
  | a :: ds, 0, h => by simp at h; subst h; exact .any _ (Wk.refl _)
  | a :: ds, i + 1, h => .same _ (Wk.set (i := i) (by simpa using h))
theorem sd_back {i : Nat} {y : Option PyData} (h : ds[i]? = some none) : SD K tNext (ds.set i y) acc (.nx ds acc) := sd_weak sd_next (Wk.set h)
theorem sd_ifS {b : Bool} {r : PyData} {c : TT} (h : EvT K c ds b) (h1 : b = true → SD K t1 ds acc (.ret r)) (h2 : b = false → SD K t2 ds acc (.nx es acc')) : SD K (tIfS c t1 t2) ds acc (if b = true then .ret r else .nx es acc') := by
  cases b with
  | true => exact sd_ifT h (h1 rfl)
  | false => exact sd_ifF h (h2 rfl)
theorem sd_searchq {α : Type} {wi : TI} (l : List α) (f : α → PyData) (E : List (Option PyData)) (F : α → List (Option PyData)) (p : α → Bool) (r : α → PyData) (hs : Src K wi ds (l.map f)) (h0 : Wk ds E)
    (hj : ∀ i ls, acc = some (i, ls) → i ∉ js) (hg : ∀ a, Tgt K g js (f a) E (F a))
    (hb : ∀ a ∈ l, SD K tb (F a) acc (if p a = true then .ret (r a) else .nx E acc))
    (hit : ∀ a, l.find? p = some a → o = .ret (r a)) (miss : l.find? p = none → SD K u E acc o) : SD K (tSeq (tFor wi g tb) u) ds acc o := by
  cases e : l.find? p with
  | none =>
    refine sd_seq (sd_for (xs := l.map f) (js := js) (fun _ => E) (fun j => match l[j]? with | some a => F a | none => E) (fun _ => acc) l.length hs h0 rfl (fun _ => hj) (fun j x hx => ?_) (fun j x hx hlt => ?_) (.inl ⟨by simp, rfl⟩)) (miss e)
    · rw [List.getElem?_map] at hx
      cases q : l[j]? with
      | none => rw [q] at hx; cases hx
      | some a => rw [q] at hx; cases hx; exact hg a
    · rw [List.getElem?_map] at hx
      cases q : l[j]? with
      | none => rw [q] at hx; cases hx
      | some a =>
        have z := hb a (List.mem_of_getElem? q)
        rw [if_neg (List.find?_eq_none.mp e a (List.mem_of_getElem? q))] at z
        exact z
  | some a =>
    rw [hit a e]
    obtain ⟨hp, as, bs, hl, hn⟩ := List.find?_eq_some_iff_append.mp e
    have at_ : l[as.length]? = some a := by rw [hl]; simp
    refine sd_seqR (sd_for (xs := l.map f) (js := js) (fun _ => E) (fun j => match l[j]? with | some a => F a | none => E) (fun _ => acc) as.length hs h0 rfl (fun _ => hj) (fun j x hx => ?_) (fun j x hx hlt => ?_) (.inr ⟨by rw [hl]; simp, _, rfl, ?_⟩))
    · rw [List.getElem?_map] at hx
      cases q : l[j]? with
      | none => rw [q] at hx; cases hx
      | some a => rw [q] at hx; cases hx; exact hg a
    · rw [List.getElem?_map] at hx
      cases q : l[j]? with
      | none => rw [q] at hx; cases hx
      | some b =>
        have z := hb b (List.mem_of_getElem? q)
        have hm : b ∈ as := by
          rw [hl, List.getElem?_append_left hlt] at q
          exact List.mem_of_getElem? q
        have hpb := hn b hm
        simp only [Bool.not_eq_true'] at hpb
        rw [if_neg (by rw [hpb]; exact Bool.false_ne_true)] at z
        exact z
    · have z := hb a (List.mem_of_getElem? at_)
      rw [if_pos hp] at z
      simp only [at_]
      exact z
/-- loops that carry what they have: E, A by the number of items taken -/
theorem sd_foldq {α : Type} {wi : TI} (l : List α) (f : α → PyData) (E : Nat → List (Option PyData)) (F : Nat → α → List (Option PyData)) (A : Nat → Option (Nat × List PyData)) (hs : Src K wi ds (l.map f)) (h0 : Wk ds (E 0)) (a0 : acc = A 0)
    (hj : ∀ j i ls, A j = some (i, ls) → i ∉ js) (hg : ∀ j a, Tgt K g js (f a) (E j) (F j a))
    (hb : ∀ j a, l[j]? = some a → SD K tb (F j a) (A j) (.nx (E (j + 1)) (A (j + 1)))) : SD K (tFor wi g tb) ds acc (.nx (E l.length) (A l.length)) := by
  refine sd_for (xs := l.map f) (js := js) E (fun j => match l[j]? with | some a => F j a | none => E j) A l.length hs h0 a0 hj (fun j x hx => ?_) (fun j x hx hlt => ?_) (.inl ⟨by simp, rfl⟩)
  · rw [List.getElem?_map] at hx
    cases q : l[j]? with
    | none => rw [q] at hx; cases hx
    | some a => rw [q] at hx; cases hx; exact hg j a
  · rw [List.getElem?_map] at hx
    cases q : l[j]? with
    | none => rw [q] at hx; cases hx
    | some a => exact hb j a q

/-! ### comprehensions by lists -/
theorem em_is {ls ms : List PyData} (h : EvM K te ds ls) (e : ls = ms) : EvM K te ds ms := e ▸ h
theorem em_lcM {wi : TI} {vs : List Nat} {xs : List PyData} (f : PyData → PyData) (hs : Src K wi ds xs) (hjs : ∀ k ∈ js, k ∈ vs) (hl : xs.length ≤ 1000000)
    (turn : ∀ x ∈ xs, ∃ es, Tgt K g js x (wipeD ds vs) es ∧ Ev K te es (f x)) : EvM K (tLc wi g tYes te vs) ds (xs.map f) := by
  have h := em_lc (K := K) (ds := ds) (te := te) (g := g) (js := js) (wi := wi) (tt := tYes) (vs := vs) (xs := xs) (fun _ => true) f hs hjs hl fun x hx => by
    obtain ⟨es, h1, h2⟩ := turn x hx
    exact ⟨es, h1, et_yes, fun _ => h2⟩
  have e : xs.filter (fun _ => true) = xs := List.filter_eq_self.mpr fun _ _ => rfl
  rw [e] at h
  exact h
theorem em_lcS {a : Tx} {i : Nat} {elt : TE} (f : Nat → PyData) (h : Ev K te ds (pS a)) (hl : a.length ≤ 1000000) (turn : ∀ c ∈ a, Ev K elt ((wipeD ds [i]).set i (some (pS [c]))) (f c)) :
    EvM K (tLc (iStr te) (gName i) tYes elt [i]) ds (a.map f) := by
  have q := em_lcM (K := K) (ds := ds) (te := elt) (g := gName i) (js := [i]) (wi := iStr te) (vs := [i]) (xs := chs a)
    (fun x => match x with | .str z => f (z.cps.toList.headD 0) | _ => .none) (src_str h) (by simp) (by unfold chs; rw [List.length_map]; exact hl) fun x hx => by
      unfold chs at hx
      obtain ⟨c, hc, rfl⟩ := List.mem_map.mp hx
      exact ⟨_, tgt_name, turn c hc⟩
  refine em_is q ?_
  unfold chs
  rw [List.map_map]
  rfl
theorem ev_lcS {a : Tx} {i : Nat} {elt : TE} (f : Nat → PyData) (h : Ev K te ds (pS a)) (hl : a.length ≤ 1000000) (turn : ∀ c ∈ a, Ev K elt ((wipeD ds [i]).set i (some (pS [c]))) (f c)) :
    Ev K (tLc (iStr te) (gName i) tYes elt [i]) ds (.list (a.map f)) := by
  have q := ev_lcM (K := K) (ds := ds) (te := elt) (g := gName i) (js := [i]) (wi := iStr te) (vs := [i]) (xs := chs a)
    (fun x => match x with | .str z => f (z.cps.toList.headD 0) | _ => .none) (src_str h) (by simp) (by unfold chs; rw [List.length_map]; exact hl) fun x hx => by
      unfold chs at hx
      obtain ⟨c, hc, rfl⟩ := List.mem_map.mp hx
      exact ⟨_, tgt_name, turn c hc⟩
  refine ev_is q ?_
  unfold chs
  rw [List.map_map]
  rfl
theorem ev_lcL {α : Type} {vs : List Nat} {elt : TE} (l : List α) (gd : α → PyData) (f : α → PyData) (F : α → List (Option PyData)) (h : Ev K te ds (.list (l.map gd))) (hl : l.length ≤ 1000000) (hjs : ∀ k ∈ js, k ∈ vs) (inj : ∀ a ∈ l, ∀ b ∈ l, gd a = gd b → f a = f b)
    (turn : ∀ a ∈ l, Tgt K g js (gd a) (wipeD ds vs) (F a) ∧ Ev K elt (F a) (f a)) : Ev K (tLc (iList K te) g tYes elt vs) ds (.list (l.map f)) := by
  classical
  have q := ev_lcM (K := K) (ds := ds) (te := elt) (g := g) (js := js) (wi := iList K te) (vs := vs) (xs := l.map gd)
    (fun x => if hx : ∃ a ∈ l, gd a = x then f hx.choose else .none) (src_lst h) hjs (by rw [List.length_map]; exact hl) fun x hx => by
      obtain ⟨a, ha, rfl⟩ := List.mem_map.mp hx
      have hx' : ∃ b ∈ l, gd b = gd a := ⟨a, ha, rfl⟩
      refine ⟨F a, (turn a ha).1, ?_⟩
      show Ev K elt (F a) (if hx : ∃ b ∈ l, gd b = gd a then f hx.choose else .none)
      rw [dif_pos hx', inj _ hx'.choose_spec.1 _ ha hx'.choose_spec.2]
      exact (turn a ha).2
  refine ev_is q ?_
  rw [List.map_map]
  congr 1
  refine List.map_congr_left fun a ha => ?_
  have hx' : ∃ b ∈ l, gd b = gd a := ⟨a, ha, rfl⟩
  show (if hx : ∃ b ∈ l, gd b = gd a then f hx.choose else .none) = f a
  rw [dif_pos hx', inj _ hx'.choose_spec.1 _ ha hx'.choose_spec.2]
theorem em_lcF {α : Type} {vs : List Nat} {elt : TE} {tt : TT} {wi : TI} (l : List α) (gd : α → PyData) (p : α → Bool) (f : α → PyData) (F : α → List (Option PyData)) (h : Src K wi ds (l.map gd)) (hl : l.length ≤ 1000000) (hjs : ∀ k ∈ js, k ∈ vs) (inj : ∀ a ∈ l, ∀ b ∈ l, gd a = gd b → p a = p b ∧ f a = f b)
    (turn : ∀ a ∈ l, Tgt K g js (gd a) (wipeD ds vs) (F a) ∧ EvT K tt (F a) (p a) ∧ (p a = true → Ev K elt (F a) (f a))) : EvM K (tLc wi g tt elt vs) ds ((l.filter p).map f) := by
  classical
  have q := em_lc (K := K) (ds := ds) (te := elt) (g := g) (js := js) (wi := wi) (tt := tt) (vs := vs) (xs := l.map gd)
    (fun x => if hx : ∃ a ∈ l, gd a = x then p hx.choose else false) (fun x => if hx : ∃ a ∈ l, gd a = x then f hx.choose else .none) h hjs (by rw [List.length_map]; exact hl) fun x hx => by
      obtain ⟨a, ha, rfl⟩ := List.mem_map.mp hx
      have hx' : ∃ b ∈ l, gd b = gd a := ⟨a, ha, rfl⟩
      have e := inj _ hx'.choose_spec.1 _ ha hx'.choose_spec.2
      refine ⟨F a, (turn a ha).1, ?_⟩
      show EvT K tt (F a) (if hx : ∃ b ∈ l, gd b = gd a then p hx.choose else false) ∧ ((if hx : ∃ b ∈ l, gd b = gd a then p hx.choose else false) = true → Ev K elt (F a) (if hx : ∃ b ∈ l, gd b = gd a then f hx.choose else .none))
      rw [dif_pos hx', dif_pos hx', e.1, e.2]
      exact (turn a ha).2
  refine em_is q ?_
  have ep : ∀ a ∈ l, (if hx : ∃ b ∈ l, gd b = gd a then p hx.choose else false) = p a := fun a ha => by
    have hx' : ∃ b ∈ l, gd b = gd a := ⟨a, ha, rfl⟩
    rw [dif_pos hx', (inj _ hx'.choose_spec.1 _ ha hx'.choose_spec.2).1]
  have ef : ∀ a ∈ l, (if hx : ∃ b ∈ l, gd b = gd a then f hx.choose else .none) = f a := fun a ha => by
    have hx' : ∃ b ∈ l, gd b = gd a := ⟨a, ha, rfl⟩
    rw [dif_pos hx', (inj _ hx'.choose_spec.1 _ ha hx'.choose_spec.2).2]
  rw [List.filter_map, List.map_map]
  have e1 : l.filter ((fun x => if hx : ∃ a ∈ l, gd a = x then p hx.choose else false) ∘ gd) = l.filter p := by
    refine List.filter_congr fun a ha => ?_
    exact ep a ha
  rw [e1]
  refine List.map_congr_left fun a ha => ?_
  exact ef a ((List.mem_filter.mp ha).1)
theorem ev_lcF {α : Type} {vs : List Nat} {elt : TE} {tt : TT} {wi : TI} (l : List α) (gd : α → PyData) (p : α → Bool) (f : α → PyData) (F : α → List (Option PyData)) (h : Src K wi ds (l.map gd)) (hl : l.length ≤ 1000000) (hjs : ∀ k ∈ js, k ∈ vs) (inj : ∀ a ∈ l, ∀ b ∈ l, gd a = gd b → p a = p b ∧ f a = f b)
    (turn : ∀ a ∈ l, Tgt K g js (gd a) (wipeD ds vs) (F a) ∧ EvT K tt (F a) (p a) ∧ (p a = true → Ev K elt (F a) (f a))) : Ev K (tLc wi g tt elt vs) ds (.list ((l.filter p).map f)) := (em_lcF l gd p f F h hl hjs inj turn).seal
/-- a name that holds a def of a written table, called -/
theorem sd_pick {ta : TA} {d : Addr} {kvs : List (Str × V)} {z : Str} {i : Nat} {tk : TE} {f : Addr} {R : List PyData → PyData → Prop} {E : XK} {l : List PyData} {x : PyData} (hk : Ev K tk ds (.str z)) (hl : kvs.lookup z = some (.ref f)) (hi : i < ds.length) (ha : EvA K ta (ds.set i none) l) (hr : R l x) :
    SD K (tSeq (tAsg (tOp (rGetD d kvs) (tC (.ref d)) tk) (gName i)) (tRet (tCallL i f (spR K R) [] E ta))) ds acc (.ret x) := fun σ G0 H0 G H D s q => by
  refine hk σ G H s.gr.gh s.en _ fun u G1 H1 g1 r1 => ⟨z, .ref f, rfl, r1.str_, hl, ?_⟩
  have s1 := s.go g1
  refine ⟨by rw [List.getElem?_set_self (by rw [s1.en.len]; exact hi)], ?_⟩
  refine ha _ G1 H1 g1.gh (s1.en.off _ i) _ fun vs G2 H2 g2 r2 => ⟨G2, l, x, g2.gh, by rw [List.append_nil]; exact r2, hr, fun v G3 H3 g3 r3 => q v G3 H3 ((s1.gr.trans g2).trans g3) r3⟩
end
section
variable {P : Program} {w : World} {K : PySem.W.Frag} {mg : Str → Option Value} {base : Heap}
/-- cal_of, the reading by the arguments -/
theorem cal_of2 {x : Str} {st : Stmt} {N ps : List Str} {k : Nat} {R : List PyData → PyData → Prop} (df : Df K mg x st) (S : FnScope N ps (defScope st))
    (hb : ∀ (kV doc pm : Value) (an : Option Addr) (cdv ct : Value) (us : List Value), us.length = ps.length → bindArgs (PySem.W.fnOf x x (defArgs st) (defBody st) (defScope st) .none kV doc pm an cdv ct) ⟨us, []⟩ = pure (ps.zip us))
    (hR : ∀ l d, R l d → l.length = ps.length)
    (body : ∀ (f : Addr) (cdv : Value) (A : Around) (outer : List Env) (s : Shared) (H : Hp) (E : XK), Room k (A.deeper (PyProof.Rows.envOfC x (defScope st) s.heap.objs.size f cdv)) → ∀ l d, R l d →
      ∃ t, PSs (cxOf CX0 P w K mg base N x (defScope st) f cdv A outer s H E).nox (defBody st) t ∧ SD K t (l.map some ++ List.replicate (N.length - l.length) none) none (.ret d)) : CalR P w K mg base (k + 1) x R := by
  refine cal_of df S hb hR fun f cdv A outer s H E hr => ⟨fun D σ H' => ∃ t, PSs (cxOf CX0 P w K mg base N x (defScope st) f cdv A outer s H E).nox (defBody st) t ∧ t D σ H', ⟨fun pins s' σ H' D I ⟨t, h1, h2⟩ => h1.run pins s' σ H' D I h2⟩, fun l d hr' => ?_⟩
  obtain ⟨t, h1, h2⟩ := body f cdv A outer s H E hr l d hr'
  exact fun σ G0 H0 G H' D si q => ⟨t, h1, h2 σ G0 H0 G H' D si q⟩
/-- a def of a written table: what a call by a name that holds it wants -/
theorem cal_at {x : Str} {st : Stmt} {k : Nat} {R : List PyData → PyData → Prop} (c : CalR P w K mg base k x R) (df : Df K mg x st) :
    ∃ (fd : FuncData) (ps : List Str), FnOk P w K mg base CX0 k (He.ga K x) fd ps (spR K R) ∧ PySem.W.keepIn K (.ref (He.ga K x)) = true ∧ Binds K fd ps [] := by
  obtain ⟨f, fd, ps, ds, ok, hm, hk, hb, hd⟩ := c.ex
  obtain ⟨fd', _, hm'⟩ := df
  rw [hm] at hm'
  cases hm'
  cases hd
  exact ⟨fd, ps, ok, hk, hb⟩

/-- the promise of a def that hands back a new list of one's own -/
def spM (K : PySem.W.Frag) (R : List PyData → List PyData → Prop) : Sp := fun vs H Q _ => ∃ G l ls, Ex G H ∧ IsL K G vs l ∧ R l ls ∧ ∀ a xs G' H', Grow G H G' H' → H' a = some (.lst xs) → G' a = none → H a = none → IsL K G' xs ls → Q (.ref a) H'
theorem em_call {ds : List (Option PyData)} {R : List PyData → List PyData → Prop} {ta : TA} {l ls : List PyData} {E : XK} (h : EvA K ta ds l) (hr : R l ls) : EvM K (tCall (spM K R) [] E ta) ds ls := fun σ G H e en Q q =>
  h σ G H e en _ fun vs G1 H1 g1 r1 => ⟨G1, l, ls, g1.gh, by rw [List.append_nil]; exact r1, hr, fun a xs G2 H2 g2 h1 n1 n2 r2 => q a xs G2 H2 (g1.trans g2) h1 n1 (g1.h.non_ n2) r2⟩
abbrev CalM (P : Program) (w : World) (K : PySem.W.Frag) (mg : Str → Option Value) (base : Heap) (k : Nat) (x : Str) (R : List PyData → List PyData → Prop) : Prop := C8.Cal P w K mg base k x (spM K R) []
theorem cal_M {x : Str} {k : Nat} {R : List PyData → List PyData → Prop} (c : CalM P w K mg base k x R) : CalR P w K mg base k x (fun l d => ∃ ls, R l ls ∧ d = .list ls) := by
  obtain ⟨f, fd, ps, ds, ok, hm, hk, hb, hd⟩ := c.ex
  refine ⟨f, fd, ps, ds, ok.imp fun vs H Q E ⟨G, l, d, e, hl, ⟨ls, hr, hd⟩, q⟩ => ⟨G, l, ls, e, hl, hr, fun a xs G' H' g h1 n1 n2 r => q _ _ H' (g.seal h1 n1 n2) ?_⟩, hm, hk, hb, hd⟩
  rw [hd]
  exact .lst upd_same (r.up (Ex.new n1))
/-- a def whose body is one return of a new list -/
theorem cal_ofM {x : Str} {st : Stmt} {N ps : List Str} {k : Nat} {R : List PyData → List PyData → Prop} (df : Df K mg x st) (S : FnScope N ps (defScope st))
    (hb : ∀ (kV doc pm : Value) (an : Option Addr) (cdv ct : Value) (us : List Value), us.length = ps.length → bindArgs (PySem.W.fnOf x x (defArgs st) (defBody st) (defScope st) .none kV doc pm an cdv ct) ⟨us, []⟩ = pure (ps.zip us))
    (hR : ∀ l ls, R l ls → l.length = ps.length)
    (body : ∀ (f : Addr) (cdv : Value) (A : Around) (outer : List Env) (s : Shared) (H : Hp) (E : XK), Room k (A.deeper (PyProof.Rows.envOfC x (defScope st) s.heap.objs.size f cdv)) →
      ∃ te, PSs (cxOf CX0 P w K mg base N x (defScope st) f cdv A outer s H E).nox (defBody st) (tRet te) ∧ ∀ l ls, R l ls → EvM K te (l.map some ++ List.replicate (N.length - l.length) none) ls) : CalM P w K mg base (k + 1) x R := by
  obtain ⟨fd, F, hm⟩ := df
  have ok : FnOk P w K mg base CX0 (k + 1) (He.ga K x) fd ps (spM K R) := by
    refine F.ok S (fun vs H Q E h => ?_) (fun cdv A outer s H vs Q E hr h => ?_)
    · obtain ⟨G, l, d, _, hl, hr, _⟩ := h
      rw [hl.len, hR l d hr]
    · obtain ⟨G, l, d, e, hl, hr', q⟩ := h
      obtain ⟨t, ht, hs⟩ := body _ cdv A outer s H E hr
      refine ⟨tRet t, ht.nox, hs l d hr' _ G H e ?_ _ fun a xs G' H' g h1 n1 n2 r => q a xs G' H' g h1 n1 n2 r⟩
      exact start_env hl
  exact ⟨_, fd, ps, [], ok, hm, F.kp, F.bindsN hb, .nil⟩
end
end K49

set_option Elab.async false
set_option linter.all false
set_option maxRecDepth 100000
/-! K49A: references, and the reader's steps that read nothing again. -/
namespace K49
open PySem L2
/-! ### promises -/
def R_is_number : List PyData → PyData → Prop := fun l d => ∃ t : Tx, l = [pS t] ∧ t.length ≤ 1000000 ∧ d = .bool (isNum t)
def R_character_of : List PyData → PyData → Prop := fun l d => ∃ n : Nat, l = [.int n] ∧ d = optD (chrOf n)
def R_reference_text : List PyData → PyData → Prop := fun l d => ∃ t : Tx, l = [pS t] ∧ t.length ≤ 1000000 ∧ d = optD (refT t)
def R_leads_on (k : Nat) : List PyData → PyData → Prop := fun l d => ∃ t : Tx, l = [pS t] ∧ t.length ≤ 1000000 ∧ (t.length ≤ 3 → 5 ≤ t.length + k) ∧ 1 ≤ k ∧ d = .bool (leadsF k t)
def R_is_beginning : List PyData → PyData → Prop := fun l d => ∃ t : Tx, l = [pS t] ∧ t.length ≤ 1000000 ∧ d = .bool (isBeg t)
def R_settled : List PyData → PyData → Prop := fun l d => ∃ s : Sta, l = [s.d] ∧ d = (settl s).d
def R_longer_name : List PyData → PyData → Prop := fun l d => ∃ (e : Tx) (c : Nat), l = [pS e, pS [c]] ∧ e.length ≤ 1000000 ∧ d = pS (longer e c)
def R_st (f : Sta → Nat → Res) : List PyData → PyData → Prop := fun l d => ∃ (s : Sta) (c : Nat), l = [s.d, pS [c]] ∧ s.el.length ≤ 1000000 ∧ d = Res.d (f s c)
def R_pending_events : List PyData → PyData → Prop := fun l d => ∃ s : Sta, l = [s.d] ∧ s.pd.length ≤ 1000000 ∧ (s.p.kd.isSome ∨ s.pd = []) ∧ d = evsD (pendE s)

/-! ### what the loops find -/
theorem isNum_hit {t : Tx} {a : Nat} (h : t.find? (fun c => !decide (c ∈ DIGS)) = some a) : isNum t = false := by
  have h1 := List.find?_some h
  have h2 := List.mem_of_find?_eq_some h
  unfold isNum
  by_cases q : t = [] ∨ 3 < t.length
  · rw [if_pos q]
  · rw [if_neg q]
    apply Bool.eq_false_iff.mpr
    intro z
    have w := List.all_eq_true.mp z a h2
    simp only [Bool.not_eq_true', decide_eq_false_iff_not] at h1
    exact h1 (of_decide_eq_true w)
theorem isNum_miss {t : Tx} (h0 : t ≠ []) (h1 : t.length ≤ 3) (h : t.find? (fun c => !decide (c ∈ DIGS)) = none) : isNum t = true := by
  unfold isNum
  rw [if_neg (by rw [not_or]; exact ⟨h0, by omega⟩)]
  refine List.all_eq_true.mpr fun c hc => ?_
  have z := List.find?_eq_none.mp h c hc
  simpa using z
theorem chrOf_hit {n a : Nat} (h : CHRS.find? (fun c : Nat => decide ((c : Int) = (n : Int))) = some a) : optD (chrOf n) = pS [a] := by
  have h1 := of_decide_eq_true (List.find?_some (p := fun c : Nat => decide ((c : Int) = (n : Int))) h)
  have h2 := List.mem_of_find?_eq_some h
  have e : a = n := by omega
  subst e
  unfold chrOf
  rw [if_pos h2]
  rfl
theorem chrOf_miss {n : Nat} (h : CHRS.find? (fun c : Nat => decide ((c : Int) = (n : Int))) = none) : optD (chrOf n) = .none := by
  unfold chrOf
  rw [if_neg fun z => by have w := List.find?_eq_none.mp h n z; simp at w]
  rfl
theorem leadsF_hit {k : Nat} {t : Tx} {a : Nat} (hn : isNum t = true) (h : DIGS.find? (fun d => leadsF k (t ++ [d])) = some a) : leadsF (k + 1) t = true := by
  unfold leadsF
  rw [if_pos hn]
  split
  · rfl
  · exact List.any_eq_true.mpr ⟨a, List.mem_of_find?_eq_some h, List.find?_some (p := fun d => leadsF k (t ++ [d])) h⟩
theorem leadsF_miss {k : Nat} {t : Tx} (hn : isNum t = true) (hc : (chrOf (numOf t)).isSome = false) (h : DIGS.find? (fun d => leadsF k (t ++ [d])) = none) : leadsF (k + 1) t = false := by
  unfold leadsF
  rw [if_pos hn, hc, if_neg Bool.false_ne_true]
  apply Bool.eq_false_iff.mpr
  intro z
  obtain ⟨a, h1, h2⟩ := List.any_eq_true.mp z
  exact List.find?_eq_none.mp h a h1 h2
theorem refT_0 {t : Tx} (h : ((dS NAMD).lookup (SX.S t)).isSome = true) : Out.ret (pS ((NAMD.lookup t).getD [])) = Out.ret (optD (refT t)) := by
  rw [dS_look] at h
  unfold refT
  cases e : NAMD.lookup t with
  | none => rw [e] at h; cases h
  | some v => rfl
theorem refT_1 {t : Tx} (h : ((dS NAMD).lookup (SX.S t)).isSome = false) (h1 : (decide (t.take 2 = [38, 35]) && (decide (t.drop (t.length - 1) = [59]) && isNum ((t.take (t.length - 1)).drop 2))) = true) :
    Out.ret (optD (chrOf (numOf ((t.take (t.length - 1)).drop 2)))) = Out.ret (optD (refT t)) := by
  rw [dS_look] at h
  unfold refT
  cases e : NAMD.lookup t with
  | some v => rw [e] at h; cases h
  | none =>
    simp only [Bool.and_eq_true, decide_eq_true_eq] at h1
    simp only
    rw [if_pos h1]
theorem refT_2 {t : Tx} (h : ((dS NAMD).lookup (SX.S t)).isSome = false) (h1 : (decide (t.take 2 = [38, 35]) && (decide (t.drop (t.length - 1) = [59]) && isNum ((t.take (t.length - 1)).drop 2))) = false) :
    Out.ret PyData.none = Out.ret (optD (refT t)) := by
  rw [dS_look] at h
  unfold refT
  cases e : NAMD.lookup t with
  | some v => rw [e] at h; cases h
  | none =>
    simp only
    rw [if_neg (fun z => by
      have w : (decide (t.take 2 = [38, 35]) && (decide (t.drop (t.length - 1) = [59]) && isNum ((t.take (t.length - 1)).drop 2))) = true := by
        simp only [Bool.and_eq_true, decide_eq_true_eq]; exact z
      rw [w] at h1; cases h1)]
    rfl
theorem isN_opt {o : Option Tx} : (∃ z, optD o = .str z ∧ o.isSome = true) ∨ (∃ l, optD o = .list l ∧ o.isSome = true) ∨ (optD o = .none ∧ o.isSome = false) := by
  cases o with
  | none => exact .inr (.inr ⟨rfl, rfl⟩)
  | some t => exact .inl ⟨_, rfl, rfl⟩
theorem isN_opt' {o : Option Tx} : (∃ z, optD o = .str z ∧ o.isNone = false) ∨ (∃ l, optD o = .list l ∧ o.isNone = false) ∨ (optD o = .none ∧ o.isNone = true) := by
  cases o with
  | none => exact .inr (.inr ⟨rfl, rfl⟩)
  | some t => exact .inl ⟨_, rfl, rfl⟩
theorem NAMD_len {a : Tx × Tx} (h : a ∈ NAMD) : a.1.length ≤ 5 := by
  simp only [NAMD, List.mem_cons, List.not_mem_nil, or_false] at h
  rcases h with rfl | rfl | rfl | rfl <;> decide
theorem rawEls_len {a : Tx} (h : a ∈ rawEls) : a.length ≤ 6 := by
  simp only [rawEls, List.mem_cons, List.not_mem_nil, or_false] at h
  rcases h with rfl | rfl <;> decide
theorem isBeg_hit {t : Tx} {a : Tx × Tx} (h0 : decide (t ∈ [[38], [38, 35]]) = false) (h1 : decide (t.take 2 = [38, 35]) = false) (h2 : decide (t = []) = false)
    (h : NAMD.find? (fun q => !decide (q.1 = t) && decide (q.1.take t.length = t)) = some a) : isBeg t = true := by
  simp at h0 h1 h2
  rw [isBeg, if_neg (by rw [not_or]; exact h0), if_neg h1, if_neg h2]
  refine List.any_eq_true.mpr ⟨a, List.mem_of_find?_eq_some h, ?_⟩
  have z := List.find?_some (p := fun q : Tx × Tx => !decide (q.1 = t) && decide (q.1.take t.length = t)) h
  simpa using z
theorem isBeg_miss {t : Tx} (h0 : decide (t ∈ [[38], [38, 35]]) = false) (h1 : decide (t.take 2 = [38, 35]) = false) (h2 : decide (t = []) = false)
    (h : NAMD.find? (fun q => !decide (q.1 = t) && decide (q.1.take t.length = t)) = none) : isBeg t = false := by
  simp at h0 h1 h2
  rw [isBeg, if_neg (by rw [not_or]; exact h0), if_neg h1, if_neg h2]
  apply Bool.eq_false_iff.mpr
  intro z
  obtain ⟨a, ha, hb⟩ := List.any_eq_true.mp z
  exact List.find?_eq_none.mp h a ha (by simpa using hb)
theorem longer_hit {el : Tx} {c : Nat} {a : Tx} (h0 : (!decide (el = [45])) = true) (h : rawEls.find? (fun k => decide (k.take (el ++ [c]).length = el ++ [c])) = some a) : longer el c = el ++ [c] := by
  have h1 := of_decide_eq_true (List.find?_some (p := fun k : Tx => decide (k.take (el ++ [c]).length = el ++ [c])) h)
  have h2 := List.mem_of_find?_eq_some h
  unfold longer
  rw [if_pos]
  refine ⟨by simpa using h0, ?_⟩
  simp only [rawEls, List.mem_cons, List.not_mem_nil, or_false] at h2
  rcases h2 with rfl | rfl
  · exact .inl h1
  · exact .inr h1
theorem longer_miss {el : Tx} {c : Nat} (h : rawEls.find? (fun k => decide (k.take (el ++ [c]).length = el ++ [c])) = none) : longer el c = [45] := by
  unfold longer
  rw [if_neg]
  rintro ⟨_, z | z⟩
  · exact List.find?_eq_none.mp h SCRI (by simp [rawEls]) (decide_eq_true z)
  · exact List.find?_eq_none.mp h STYL (by simp [rawEls]) (decide_eq_true z)
section
variable {P : Program} {w : World} {K : PySem.W.Frag} {mg : Str → Option Value} {base : Heap}

theorem sc_is_number : FnScope ["text", "char"] ["text"] (defScope s_is_number) := ⟨rfl, rfl, rfl, by decide +kernel, rfl, by decide +kernel, by decide +kernel⟩
theorem cal_is_number (T : Fx K w mg)   : CalR P w K mg base 1 "is_number" (R_is_number) := by
  refine cal_of T.f_is_number sc_is_number (fun _ _ _ _ _ _ us hl => match us, hl with | [_], _ => rfl) ?_ (fun f cdv A outer s H E hr => ⟨_, pss_cons (ps_if (PW.pt (pw_or (pt_cmpR op_eq (pv 0) (pe_str) (by first | exact nomark _ | rfl)) (pw_or1 (pt_cmpR op_gt (pe_callB (call_lenK (K := K) rfl) (by rfl) T.b_len PySem.boot_len (pa_cons (pv 0) pa_nil)) (C8.pe_gc rfl T.i_MOST_DIGITS) (by first | exact nomark _ | rfl)))))
       (pss_one (ps_ret (pe_bl)))
       (pss_nil))
      (pss_cons (ps_for PassesOwn.never rfl (pi_str (pv 0)) (pg_name (i := 1) sc_is_number.nd rfl (.inl rfl))
       (pss_one (ps_if (pt_cmpR op_notIn_sign (pv 1) (C8.pe_gc rfl T.s_DIGITS) (by first | exact nomark _ | rfl)) (pss_one (ps_ret (pe_bl))) pss_nil)))
      (pss_one (ps_ret (pe_bl)))), ?_⟩)
  · intro l d h
    obtain ⟨t, rfl, hl, rfl⟩ := h
    rfl
  · intro l d h
    obtain ⟨t, rfl, hl, rfl⟩ := h
    have hl2 : t.length ≤ 2000000 := by omega
    exact sd_ifq (et_or (et_test (ev_op (ev_var rfl) (ev_strS []) rv_eqT)) (fun hq => et_test (ev_op (ev_lenS (ev_var rfl) (by first | assumption | (simp; omega) | omega)) (ev_int) rv_gtI)))
       (fun h0 => sd_seqR (sd_is (sd_ret (ev_bl)) (by rw [isNum, if_pos (by simp at h0; rcases h0 with z | z; exact .inl z; right; omega)])))
       (fun h0 => sd_nextq (sd_searchq t (fun c => pS [c]) _ _ _ _ (src_str (ev_var rfl)) (Wk.refl _) (fun _ _ z => nomatch z) (fun a => tgt_name)
       (fun a ha => sd_ifS (et_test (ev_op (ev_var rfl) (ev_str) rv_niC)) (fun h1 => sd_ret (ev_bl)) (fun h1 => sd_back rfl))
       (fun a h => by rw [isNum_hit h])
       (fun hm => sd_is (sd_ret (ev_bl)) (by simp at h0; rw [isNum_miss (by exact h0.1) (by omega) hm]))))

theorem sc_character_of : FnScope ["number", "char"] ["number"] (defScope s_character_of) := ⟨rfl, rfl, rfl, by decide +kernel, rfl, by decide +kernel, by decide +kernel⟩
theorem cal_character_of (T : Fx K w mg)   : CalR P w K mg base 1 "character_of" (R_character_of) := by
  refine cal_of T.f_character_of sc_character_of (fun _ _ _ _ _ _ us hl => match us, hl with | [_], _ => rfl) ?_ (fun f cdv A outer s H E hr => ⟨_, pss_cons (ps_for PassesOwn.never rfl (pi_str (C8.pe_gc rfl T.s_CHARACTERS)) (pg_name (i := 1) sc_character_of.nd rfl (.inl rfl))
       (pss_one (ps_if (pt_cmpR op_eq (pe_callB call_ord (by rfl) T.b_ord (by decide +kernel) (pa_cons (pv 1) pa_nil)) (pv 0) (by first | exact nomark _ | rfl)) (pss_one (ps_ret (pv 1))) pss_nil)))
      (pss_one (ps_ret (pe_non))), ?_⟩)
  · intro l d h
    obtain ⟨n, rfl, rfl⟩ := h
    rfl
  · intro l d h
    obtain ⟨n, rfl, rfl⟩ := h
    exact sd_searchq CHRS (fun c => pS [c]) _ _ _ _ (src_str (ev_str)) (Wk.refl _) (fun _ _ z => nomatch z) (fun a => tgt_name)
       (fun a ha => sd_ifS (et_test (ev_op (ev_ord (ev_var rfl)) (ev_var rfl) rv_eqI)) (fun h0 => sd_ret (ev_var rfl)) (fun h0 => sd_back rfl))
       (fun a h => by rw [chrOf_hit h])
       (fun hm => sd_is (sd_ret (ev_non)) (by rw [chrOf_miss hm]))

theorem sc_reference_text : FnScope ["text"] ["text"] (defScope s_reference_text) := ⟨rfl, rfl, rfl, by decide +kernel, rfl, by decide +kernel, by decide +kernel⟩
theorem cal_reference_text (T : Fx K w mg) (c_is_number : CalR P w K mg base 1 "is_number" R_is_number) (c_character_of : CalR P w K mg base 1 "character_of" R_character_of)  : CalR P w K mg base 2 "reference_text" (R_reference_text) := by
  refine cal_of T.f_reference_text sc_reference_text (fun _ _ _ _ _ _ us hl => match us, hl with | [_], _ => rfl) ?_ (fun f cdv A outer s H E hr => ⟨_, pss_cons (ps_if (pt_cmpR (op_inD T.d_NAMED) (pv 0) (C8.pe_gc rfl T.g_NAMED) (by first | exact nomark _ | rfl))
       (pss_one (ps_ret (pe_ix (ix_D T.d_NAMED) (C8.pe_gc rfl T.g_NAMED) (pv 0) (fun _ _ => rfl))))
       (pss_nil))
      (pss_cons (ps_if (PW.pt (pw_and (pt_cmpR op_eq (pe_slice sl_str (pv 0) (po_none) (po_some (pe_int))) (pe_str) (by first | exact nomark _ | rfl)) (pw_and (pt_cmpR op_eq (pe_slice sl_str (pv 0) (po_some (pe_un un_neg (pe_int))) (po_none)) (pe_str) (by first | exact nomark _ | rfl)) (pw_and1 (pt_val (C8.pe_c c_is_number hr (by omega) rfl (pa_cons (pe_slice sl_str (pv 0) (po_some (pe_int)) (po_some (pe_un un_neg (pe_int)))) (pa_nil))))))))
       (pss_one (ps_ret (C8.pe_c c_character_of hr (by omega) rfl (pa_cons (pe_callTy call_int_str (by rfl) T.b_int (by decide +kernel) (pa_cons (pe_slice sl_str (pv 0) (po_some (pe_int)) (po_some (pe_un un_neg (pe_int)))) pa_nil)) (pa_nil)))))
       (pss_nil))
      (pss_one (ps_ret (pe_non)))), ?_⟩)
  · intro l d h
    obtain ⟨t, rfl, hl, rfl⟩ := h
    rfl
  · intro l d h
    obtain ⟨t, rfl, hl, rfl⟩ := h
    have hl2 : t.length ≤ 2000000 := by omega
    exact sd_ifq (et_test (ev_inD (ev_var rfl)))
       (fun h0 => sd_seqR (sd_is (sd_ret (ev_getD (ev_var rfl) (lookG (by assumption)) (fun _ => .str _))) (refT_0 h0)))
       (fun h0 => sd_nextq (sd_ifq (et_and (et_test (ev_op (ev_slTo (ev_var rfl) (eo_some (ev_int)) (by first | assumption | (simp; omega) | omega)) (ev_strS [38, 35]) rv_eqT)) (fun hq => et_and (et_test (ev_op (ev_slLast (ev_var rfl) (eo_some (ev_neg (ev_int))) (by first | assumption | (simp; omega) | omega)) (ev_strS [59]) rv_eqT)) (fun hq => et_B (ev_call (ea_cons (ev_slMid (ev_var rfl) (eo_some (ev_int)) (eo_some (ev_neg (ev_int))) (by first | assumption | (simp; omega) | omega)) (ea_nil)) ⟨_, rfl, by simp; omega, rfl⟩))))
       (fun h1 => sd_seqR (sd_is (sd_ret (ev_call (ea_cons (ev_intS (ev_slMid (ev_var rfl) (eo_some (ev_int)) (eo_some (ev_neg (ev_int))) (by first | assumption | (simp; omega) | omega)) (by simp at h1; exact h1.2.2)) (ea_nil)) ⟨_, rfl, rfl⟩)) (refT_1 h0 h1)))
       (fun h1 => sd_nextq (sd_is (sd_ret (ev_non)) (refT_2 h0 h1)))))

theorem sc_leads_on : FnScope ["digits", "digit"] ["digits"] (defScope s_leads_on) := ⟨rfl, rfl, rfl, by decide +kernel, rfl, by decide +kernel, by decide +kernel⟩
theorem cal_leads_on (T : Fx K w mg) (c_is_number : CalR P w K mg base 1 "is_number" R_is_number) (c_character_of : CalR P w K mg base 1 "character_of" R_character_of) (c_leads_on : CalR P w K mg base (k + 1) "leads_on" (R_leads_on k))  : CalR P w K mg base (k + 1 + 1) "leads_on" (R_leads_on (k + 1)) := by
  refine cal_of T.f_leads_on sc_leads_on (fun _ _ _ _ _ _ us hl => match us, hl with | [_], _ => rfl) ?_ (fun f cdv A outer s H E hr => ⟨_, pss_cons (ps_if (pt_not (pt_val (C8.pe_c c_is_number hr (by omega) rfl (pa_cons (pv 0) (pa_nil)))))
       (pss_one (ps_ret (pe_bl)))
       (pss_nil))
      (pss_cons (ps_if (pt_cmpR op_notN (C8.pe_c c_character_of hr (by omega) rfl (pa_cons (pe_callTy call_int_str (by rfl) T.b_int (by decide +kernel) (pa_cons (pv 0) pa_nil)) (pa_nil))) (pe_non) (by first | exact nomark _ | rfl))
       (pss_one (ps_ret (pe_bl)))
       (pss_nil))
      (pss_cons (ps_for PassesOwn.never rfl (pi_str (C8.pe_gc rfl T.s_DIGITS)) (pg_name (i := 1) sc_leads_on.nd rfl (.inl rfl))
       (pss_one (ps_if (pt_val (C8.pe_c c_leads_on hr (by omega) rfl (pa_cons (pe_op op_add_str (pv 0) (pv 1)) (pa_nil)))) (pss_one (ps_ret (pe_bl))) pss_nil)))
      (pss_one (ps_ret (pe_bl))))), ?_⟩)
  · intro l d h
    obtain ⟨t, rfl, hl, h5, _, rfl⟩ := h
    rfl
  · intro l d h
    obtain ⟨t, rfl, hl, h5, _, rfl⟩ := h
    have hl2 : t.length ≤ 2000000 := by omega
    have hn3 : isNum t = true → t.length ≤ 3 := fun z => (isNum_all z).2.2
    exact sd_ifq (et_not (et_B (ev_call (ea_cons (ev_var rfl) (ea_nil)) ⟨_, rfl, by omega, rfl⟩)))
       (fun h0 => sd_seqR (sd_is (sd_ret (ev_bl)) (by simp at h0; rw [leadsF, h0]; rfl)))
       (fun h0 => sd_nextq (sd_ifq (et_test (ev_op (ev_call (ea_cons (ev_intS (ev_var rfl) (by simpa using h0)) (ea_nil)) ⟨_, rfl, rfl⟩) (ev_non) (rv_notN isN_opt)))
       (fun h1 => sd_seqR (sd_is (sd_ret (ev_bl)) (by simp at h0; rw [leadsF, h0, if_pos rfl, h1, if_pos rfl])))
       (fun h1 => sd_nextq (sd_searchq DIGS (fun c => pS [c]) _ _ _ _ (src_str (ev_str)) (Wk.refl _) (fun _ _ z => nomatch z) (fun a => tgt_name)
       (fun a ha => sd_ifS (et_B (ev_call (ea_cons (ev_op (ev_var rfl) (ev_var rfl) (rv_catS (by first | assumption | (simp; omega) | omega))) (ea_nil)) ⟨_, rfl, by have z := hn3 (by simpa using h0); simp; omega, by have z := hn3 (by simpa using h0); simp; omega, by have z := hn3 (by simpa using h0); omega, rfl⟩)) (fun h2 => sd_ret (ev_bl)) (fun h2 => sd_back rfl))
       (fun a h => by rw [leadsF_hit (by simpa using h0) h])
       (fun hm => sd_is (sd_ret (ev_bl)) (by rw [leadsF_miss (by simpa using h0) h1 hm]))))))

theorem sc_is_beginning : FnScope ["text", "name"] ["text"] (defScope s_is_beginning) := ⟨rfl, rfl, rfl, by decide +kernel, rfl, by decide +kernel, by decide +kernel⟩
theorem cal_is_beginning (T : Fx K w mg) (c_leads_on : CalR P w K mg base 6 "leads_on" (R_leads_on 5))  : CalR P w K mg base 7 "is_beginning" (R_is_beginning) := by
  refine cal_of T.f_is_beginning sc_is_beginning (fun _ _ _ _ _ _ us hl => match us, hl with | [_], _ => rfl) ?_ (fun f cdv A outer s H E hr => ⟨_, pss_cons (ps_if (pt_cmpR (in_seqK (K := K) rfl) (pv 0) (pe_tup (pa_cons (pe_str) (pa_cons (pe_str) (pa_nil)))) (by first | exact nomark _ | rfl))
       (pss_one (ps_ret (pe_bl)))
       (pss_nil))
      (pss_cons (ps_if (pt_cmpR op_eq (pe_slice sl_str (pv 0) (po_none) (po_some (pe_int))) (pe_str) (by first | exact nomark _ | rfl))
       (pss_one (ps_ret (C8.pe_c c_leads_on hr (by omega) rfl (pa_cons (pe_slice sl_str (pv 0) (po_some (pe_int)) (po_none)) (pa_nil)))))
       (pss_nil))
      (pss_cons (ps_if (pt_cmpR op_eq (pv 0) (pe_str) (by first | exact nomark _ | rfl))
       (pss_one (ps_ret (pe_bl)))
       (pss_nil))
      (pss_cons (ps_for PassesOwn.never rfl (pi_kd T.d_NAMED (C8.pe_gc rfl T.g_NAMED)) (pg_name (i := 1) sc_is_beginning.nd rfl (.inl rfl))
       (pss_one (ps_if (PW.pt (pw_and (pt_cmpR op_ne (pv 1) (pv 0) (by first | exact nomark _ | rfl)) (pw_and1 (pt_cmpR op_eq (pe_slice sl_str (pv 1) (po_none) (po_some (pe_callB (call_lenK (K := K) rfl) (by rfl) T.b_len PySem.boot_len (pa_cons (pv 0) pa_nil)))) (pv 0) (by first | exact nomark _ | rfl))))) (pss_one (ps_ret (pe_bl))) pss_nil)))
      (pss_one (ps_ret (pe_bl)))))), ?_⟩)
  · intro l d h
    obtain ⟨t, rfl, hl, rfl⟩ := h
    rfl
  · intro l d h
    obtain ⟨t, rfl, hl, rfl⟩ := h
    have hl2 : t.length ≤ 2000000 := by omega
    exact sd_ifq (et_test (ev_op (ev_var rfl) (ev_tup (ea_cons (ev_strS [38]) (ea_cons (ev_strS [38, 35]) (ea_nil)))) (rv_inTs [[38], [38, 35]])))
       (fun h0 => sd_seqR (sd_is (sd_ret (ev_bl)) (by simp at h0; rw [isBeg, if_pos h0])))
       (fun h0 => sd_nextq (sd_ifq (et_test (ev_op (ev_slTo (ev_var rfl) (eo_some (ev_int)) (by first | assumption | (simp; omega) | omega)) (ev_strS [38, 35]) rv_eqT))
       (fun h1 => sd_seqR (sd_is (sd_ret (ev_call (ea_cons (ev_slFrom (ev_var rfl) (eo_some (ev_int)) (by first | assumption | (simp; omega) | omega)) (ea_nil)) ⟨_, rfl, by simp; omega, by omega, by omega, rfl⟩)) (by simp at h0 h1; rw [isBeg, if_neg (by rw [not_or]; exact h0), if_pos h1]; rfl)))
       (fun h1 => sd_nextq (sd_ifq (et_test (ev_op (ev_var rfl) (ev_strS []) rv_eqT))
       (fun h2 => sd_seqR (sd_is (sd_ret (ev_bl)) (by simp at h0 h1 h2; rw [isBeg, if_neg (by rw [not_or]; exact h0), if_neg h1, if_pos h2])))
       (fun h2 => sd_nextq (sd_searchq NAMD (fun q => pS q.1) _ _ _ _ (src_kd) (Wk.refl _) (fun _ _ z => nomatch z) (fun a => tgt_name)
       (fun a ha => sd_ifS (et_and (et_test (ev_op (ev_var rfl) (ev_var rfl) rv_neT)) (fun hq => et_test (ev_op (ev_slTo (ev_var rfl) (eo_some (ev_lenS (ev_var rfl) (by first | assumption | (simp; omega) | omega))) (by have z := NAMD_len ha; omega)) (ev_var rfl) rv_eqT))) (fun h3 => sd_ret (ev_bl)) (fun h3 => sd_back rfl))
       (fun a h => by rw [isBeg_hit h0 h1 h2 h])
       (fun hm => sd_is (sd_ret (ev_bl)) (by rw [isBeg_miss h0 h1 h2 hm]))))))))

theorem sc_settled : FnScope ["state"] ["state"] (defScope s_settled) := ⟨rfl, rfl, rfl, by decide +kernel, rfl, by decide +kernel, by decide +kernel⟩
theorem cal_settled (T : Fx K w mg)   : CalR P w K mg base 1 "settled" (R_settled) := by
  refine cal_of T.f_settled sc_settled (fun _ _ _ _ _ _ us hl => match us, hl with | [_], _ => rfl) ?_ (fun f cdv A outer s H E hr => ⟨_, pss_one (ps_ret (pe_tup (pa_cons (pe_ix (ix_tupK (K := K) rfl) (pv 0) (pe_int) (fun _ _ => rfl)) (pa_cons (pe_ix (ix_tupK (K := K) rfl) (pv 0) (pe_int) (fun _ _ => rfl)) (pa_cons (pe_str) (pa_nil)))))), ?_⟩)
  · intro l d h
    obtain ⟨s, rfl, rfl⟩ := h
    rfl
  · intro l d h
    obtain ⟨s, rfl, rfl⟩ := h
    exact sd_is (sd_ret (ev_tup (ea_cons (ev_op (ev_var rfl) (ev_int) (rv_ixT rfl)) (ea_cons (ev_op (ev_var rfl) (ev_int) (rv_ixT rfl)) (ea_cons (ev_strS []) (ea_nil)))))) (by simp []; try rfl)

theorem sc_longer_name : FnScope ["element", "char", "name", "known"] ["element", "char"] (defScope s_longer_name) := ⟨rfl, rfl, rfl, by decide +kernel, rfl, by decide +kernel, by decide +kernel⟩
theorem cal_longer_name (T : Fx K w mg)   : CalR P w K mg base 1 "longer_name" (R_longer_name) := by
  refine cal_of T.f_longer_name sc_longer_name (fun _ _ _ _ _ _ us hl => match us, hl with | [_, _], _ => rfl) ?_ (fun f cdv A outer s H E hr => ⟨_, pss_cons (ps_set (i := 2) sc_longer_name.nd rfl (.inl rfl) (pe_op op_add_str (pv 0) (pv 1)))
      (pss_cons (ps_if (pt_cmpR op_ne (pv 0) (pe_str) (by first | exact nomark _ | rfl))
       (pss_one (ps_for PassesOwn.never rfl (pi_tupK (K := K) rfl (C8.pe_gc rfl T.g_RAW_ELEMENTS)) (pg_name (i := 3) sc_longer_name.nd rfl (.inl rfl))
       (pss_one (ps_if (pt_cmpR op_eq (pe_slice sl_str (pv 3) (po_none) (po_some (pe_callB (call_lenK (K := K) rfl) (by rfl) T.b_len PySem.boot_len (pa_cons (pv 2) pa_nil)))) (pv 2) (by first | exact nomark _ | rfl)) (pss_one (ps_ret (pv 2))) pss_nil))))
       (pss_nil))
      (pss_one (ps_ret (pe_str)))), ?_⟩)
  · intro l d h
    obtain ⟨el, c, rfl, hl, rfl⟩ := h
    rfl
  · intro l d h
    obtain ⟨el, c, rfl, hl, rfl⟩ := h
    exact sd_seq (sd_set (ev_op (ev_var rfl) (ev_var rfl) (rv_catS (by first | assumption | (simp; omega) | omega))))
      (sd_ifq (et_test (ev_op (ev_var rfl) (ev_strS [45]) rv_neT))
       (fun h0 => sd_searchq rawEls pS _ _ _ _ (src_tup (ev_c T.v_RAW_ELEMENTS)) (Wk.refl _) (fun _ _ z => nomatch z) (fun a => tgt_name)
       (fun a ha => sd_ifS (et_test (ev_op (ev_slTo (ev_var rfl) (eo_some (ev_lenS (ev_var rfl) (by first | assumption | (simp; omega) | omega))) (by have z := rawEls_len ha; omega)) (ev_var rfl) rv_eqT)) (fun h1 => sd_ret (ev_var rfl)) (fun h1 => sd_back rfl))
       (fun a h => by rw [longer_hit h0 h])
       (fun hm => sd_is (sd_ret (ev_strS [45])) (by rw [longer_miss hm])))
       (fun h0 => sd_nextq (sd_is (sd_ret (ev_strS [45])) (by simp at h0; simp [longer, h0]))))

theorem sc_step_gap : FnScope ["state", "char"] ["state", "char"] (defScope s_step_gap) := ⟨rfl, rfl, rfl, by decide +kernel, rfl, by decide +kernel, by decide +kernel⟩
theorem cal_step_gap (T : Fx K w mg)   : CalR P w K mg base 1 "step_gap" (R_st stGap) := by
  refine cal_of T.f_step_gap sc_step_gap (fun _ _ _ _ _ _ us hl => match us, hl with | [_, _], _ => rfl) ?_ (fun f cdv A outer s H E hr => ⟨_, pss_cons (ps_if (PW.pt (pw_or (pt_cmpR op_in_sign (pv 1) (C8.pe_gc rfl T.s_BLANKS) (by first | exact nomark _ | rfl)) (pw_or1 (pt_cmpR op_eq (pv 1) (pe_str) (by first | exact nomark _ | rfl)))))
       (pss_one (ps_ret (pe_tup (pa_cons (pv 0) (pa_cons (pe_lst pa_nil) (pa_nil))))))
       (pss_nil))
      (pss_cons (ps_if (pt_cmpR op_ne (pv 1) (pe_str) (by first | exact nomark _ | rfl))
       (pss_one (ps_ret (pe_tup (pa_cons (pe_tup (pa_cons (pe_str) (pa_cons (pe_ix (ix_tupK (K := K) rfl) (pv 0) (pe_int) (fun _ _ => rfl)) (pa_cons (pe_str) (pa_nil))))) (pa_cons (pe_lst (pa_cons (pe_tup (pa_cons (pe_str) (pa_cons (pv 1) (pa_nil)))) (pa_nil))) (pa_nil))))))
       (pss_nil))
      (pss_cons (ps_if (pt_cmpR op_eq (pe_ix (ix_tupK (K := K) rfl) (pv 0) (pe_int) (fun _ _ => rfl)) (pe_str) (by first | exact nomark _ | rfl))
       (pss_one (ps_ret (pe_tup (pa_cons (C8.pe_gc rfl T.g_START) (pa_cons (pe_lst (pa_cons (pe_tup (pa_cons (pe_str) (pa_cons (pe_str) (pa_nil)))) (pa_nil))) (pa_nil))))))
       (pss_nil))
      (pss_one (ps_ret (pe_tup (pa_cons (pe_tup (pa_cons (pe_str) (pa_cons (pe_ix (ix_tupK (K := K) rfl) (pv 0) (pe_int) (fun _ _ => rfl)) (pa_cons (pe_str) (pa_nil))))) (pa_cons (pe_lst (pa_cons (pe_tup (pa_cons (pe_str) (pa_cons (pe_str) (pa_nil)))) (pa_nil))) (pa_nil)))))))), ?_⟩)
  · intro l d h
    obtain ⟨s, c, rfl, hl, rfl⟩ := h
    rfl
  · intro l d h
    obtain ⟨s, c, rfl, hl, rfl⟩ := h
    exact sd_ifq (et_or (et_test (ev_op (ev_var rfl) (ev_str) rv_inC)) (fun hq => et_test (ev_op (ev_var rfl) (ev_strS [47]) rv_eqT)))
       (fun h0 => sd_seqR (sd_is (sd_ret (ev_tup (ea_cons (ev_var rfl) (ea_cons (ev_lst (ea_nil)) (ea_nil))))) (by (try simp at h0); simp [stGap, h0]; try rfl)))
       (fun h0 => sd_nextq (sd_ifq (et_test (ev_op (ev_var rfl) (ev_strS [62]) rv_neT))
       (fun h1 => sd_seqR (sd_is (sd_ret (ev_tup (ea_cons (ev_tup (ea_cons (ev_strS [110, 97, 109, 101]) (ea_cons (ev_op (ev_var rfl) (ev_int) (rv_ixT rfl)) (ea_cons (ev_strS []) (ea_nil))))) (ea_cons (ev_lst (ea_cons (ev_tup (ea_cons (ev_strS [97, 116, 116, 114, 105, 98, 117, 116, 101]) (ea_cons (ev_var rfl) (ea_nil)))) (ea_nil))) (ea_nil))))) (by (try simp at h0 h1); simp [stGap, h0, h1]; try rfl)))
       (fun h1 => sd_nextq (sd_ifq (et_test (ev_op (ev_op (ev_var rfl) (ev_int) (rv_ixT rfl)) (ev_strS [45]) rv_eqT))
       (fun h2 => sd_seqR (sd_is (sd_ret (ev_tup (ea_cons (ev_c T.v_START) (ea_cons (ev_lst (ea_cons (ev_tup (ea_cons (ev_strS [99, 108, 111, 115, 101]) (ea_cons (ev_strS []) (ea_nil)))) (ea_nil))) (ea_nil))))) (by (try simp at h0 h1 h2); simp [stGap, h0, h1, h2]; try rfl)))
       (fun h2 => sd_nextq (sd_is (sd_ret (ev_tup (ea_cons (ev_tup (ea_cons (ev_strS [114, 97, 119]) (ea_cons (ev_op (ev_var rfl) (ev_int) (rv_ixT rfl)) (ea_cons (ev_strS []) (ea_nil))))) (ea_cons (ev_lst (ea_cons (ev_tup (ea_cons (ev_strS [99, 108, 111, 115, 101]) (ea_cons (ev_strS []) (ea_nil)))) (ea_nil))) (ea_nil))))) (by (try simp at h0 h1 h2); simp [stGap, h0, h1, h2]; try rfl)))))))

theorem sc_step_tag : FnScope ["state", "char", "element"] ["state", "char"] (defScope s_step_tag) := ⟨rfl, rfl, rfl, by decide +kernel, rfl, by decide +kernel, by decide +kernel⟩
theorem cal_step_tag (T : Fx K w mg) (c_longer_name : CalR P w K mg base 1 "longer_name" R_longer_name) (c_step_gap : CalR P w K mg base 1 "step_gap" (R_st stGap))  : CalR P w K mg base 2 "step_tag" (R_st stTag) := by
  refine cal_of T.f_step_tag sc_step_tag (fun _ _ _ _ _ _ us hl => match us, hl with | [_, _], _ => rfl) ?_ (fun f cdv A outer s H E hr => ⟨_, pss_cons (ps_set (i := 2) sc_step_tag.nd rfl (.inl rfl) (pe_ix (ix_tupK (K := K) rfl) (pv 0) (pe_int) (fun _ _ => rfl)))
      (pss_cons (ps_if (pt_cmpR op_in_sign (pv 1) (C8.pe_gc rfl T.s_NAME_CHARACTERS) (by first | exact nomark _ | rfl))
       (pss_one (ps_ret (pe_tup (pa_cons (pe_tup (pa_cons (pe_str) (pa_cons (C8.pe_c c_longer_name hr (by omega) rfl (pa_cons (pv 2) (pa_cons (pv 1) (pa_nil)))) (pa_cons (pe_str) (pa_nil))))) (pa_cons (pe_lst (pa_cons (pe_tup (pa_cons (pe_str) (pa_cons (pv 1) (pa_nil)))) (pa_nil))) (pa_nil))))))
       (pss_nil))
      (pss_cons (ps_if (pt_cmpR (notIn_seqK (K := K) rfl) (pv 2) (C8.pe_gc rfl T.g_RAW_ELEMENTS) (by first | exact nomark _ | rfl))
       (pss_one (ps_set (i := 2) sc_step_tag.nd rfl (.inl rfl) (pe_str)))
       (pss_nil))
      (pss_one (ps_ret (C8.pe_c c_step_gap hr (by omega) rfl (pa_cons (pe_tup (pa_cons (pe_str) (pa_cons (pv 2) (pa_cons (pe_str) (pa_nil))))) (pa_cons (pv 1) (pa_nil)))))))), ?_⟩)
  · intro l d h
    obtain ⟨s, c, rfl, hl, rfl⟩ := h
    rfl
  · intro l d h
    obtain ⟨s, c, rfl, hl, rfl⟩ := h
    exact sd_seq (sd_set (ev_op (ev_var rfl) (ev_int) (rv_ixT rfl)))
      (sd_ifq (et_test (ev_op (ev_var rfl) (ev_str) rv_inC))
       (fun h0 => sd_seqR (sd_is (sd_ret (ev_tup (ea_cons (ev_tup (ea_cons (ev_strS [116, 97, 103]) (ea_cons (ev_call (ea_cons (ev_var rfl) (ea_cons (ev_var rfl) (ea_nil))) ⟨_, _, rfl, hl, rfl⟩) (ea_cons (ev_strS []) (ea_nil))))) (ea_cons (ev_lst (ea_cons (ev_tup (ea_cons (ev_strS [110, 97, 109, 101]) (ea_cons (ev_var rfl) (ea_nil)))) (ea_nil))) (ea_nil))))) (by (try simp at h0); simp [stTag, h0]; try rfl)))
       (fun h0 => sd_nextq (sd_ifq (et_test (ev_op (ev_var rfl) (ev_c T.v_RAW_ELEMENTS) (rv_niTs rawEls)))
       (fun h1 => sd_seq (sd_set (ev_strS [45])) (sd_is (sd_ret (ev_call (ea_cons (ev_tup (ea_cons (ev_strS [103, 97, 112]) (ea_cons (ev_var rfl) (ea_cons (ev_strS []) (ea_nil))))) (ea_cons (ev_var rfl) (ea_nil))) ⟨⟨.gap, _, []⟩, _, rfl, by simp; try exact hl, rfl⟩)) (by (try simp at h0 h1); simp [stTag, h0, h1]; try rfl)))
       (fun h1 => sd_nextq (sd_is (sd_ret (ev_call (ea_cons (ev_tup (ea_cons (ev_strS [103, 97, 112]) (ea_cons (ev_var rfl) (ea_cons (ev_strS []) (ea_nil))))) (ea_cons (ev_var rfl) (ea_nil))) ⟨⟨.gap, _, []⟩, _, rfl, by simp; try exact hl, rfl⟩)) (by (try simp at h0 h1); simp [stTag, h0, h1]; try rfl))))))

theorem sc_step_name : FnScope ["state", "char"] ["state", "char"] (defScope s_step_name) := ⟨rfl, rfl, rfl, by decide +kernel, rfl, by decide +kernel, by decide +kernel⟩
theorem cal_step_name (T : Fx K w mg) (c_step_gap : CalR P w K mg base 1 "step_gap" (R_st stGap))  : CalR P w K mg base 2 "step_name" (R_st stName) := by
  refine cal_of T.f_step_name sc_step_name (fun _ _ _ _ _ _ us hl => match us, hl with | [_, _], _ => rfl) ?_ (fun f cdv A outer s H E hr => ⟨_, pss_cons (ps_if (PW.pt (pw_or (pt_cmpR op_in_sign (pv 1) (C8.pe_gc rfl T.s_BLANKS) (by first | exact nomark _ | rfl)) (pw_or1 (pt_cmpR op_in_sign (pv 1) (pe_str) (by first | exact nomark _ | rfl)))))
       (pss_one (ps_ret (C8.pe_c c_step_gap hr (by omega) rfl (pa_cons (pe_tup (pa_cons (pe_str) (pa_cons (pe_ix (ix_tupK (K := K) rfl) (pv 0) (pe_int) (fun _ _ => rfl)) (pa_cons (pe_str) (pa_nil))))) (pa_cons (pv 1) (pa_nil))))))
       (pss_nil))
      (pss_cons (ps_if (pt_cmpR op_eq (pv 1) (pe_str) (by first | exact nomark _ | rfl))
       (pss_one (ps_ret (pe_tup (pa_cons (pe_tup (pa_cons (pe_str) (pa_cons (pe_ix (ix_tupK (K := K) rfl) (pv 0) (pe_int) (fun _ _ => rfl)) (pa_cons (pe_str) (pa_nil))))) (pa_cons (pe_lst pa_nil) (pa_nil))))))
       (pss_nil))
      (pss_one (ps_ret (pe_tup (pa_cons (pv 0) (pa_cons (pe_lst (pa_cons (pe_tup (pa_cons (pe_str) (pa_cons (pv 1) (pa_nil)))) (pa_nil))) (pa_nil))))))), ?_⟩)
  · intro l d h
    obtain ⟨s, c, rfl, hl, rfl⟩ := h
    rfl
  · intro l d h
    obtain ⟨s, c, rfl, hl, rfl⟩ := h
    exact sd_ifq (et_or (et_test (ev_op (ev_var rfl) (ev_str) rv_inC)) (fun hq => et_test (ev_op (ev_var rfl) (ev_strS [47, 62]) rv_inC)))
       (fun h0 => sd_seqR (sd_is (sd_ret (ev_call (ea_cons (ev_tup (ea_cons (ev_strS [103, 97, 112]) (ea_cons (ev_op (ev_var rfl) (ev_int) (rv_ixT rfl)) (ea_cons (ev_strS []) (ea_nil))))) (ea_cons (ev_var rfl) (ea_nil))) ⟨⟨.gap, _, []⟩, _, rfl, hl, rfl⟩)) (by (try simp at h0); simp [stName, h0]; try rfl)))
       (fun h0 => sd_nextq (sd_ifq (et_test (ev_op (ev_var rfl) (ev_strS [61]) rv_eqT))
       (fun h1 => sd_seqR (sd_is (sd_ret (ev_tup (ea_cons (ev_tup (ea_cons (ev_strS [101, 113, 117, 97, 108, 115]) (ea_cons (ev_op (ev_var rfl) (ev_int) (rv_ixT rfl)) (ea_cons (ev_strS []) (ea_nil))))) (ea_cons (ev_lst (ea_nil)) (ea_nil))))) (by (try simp at h0 h1); simp [stName, h0, h1]; try rfl)))
       (fun h1 => sd_nextq (sd_is (sd_ret (ev_tup (ea_cons (ev_var rfl) (ea_cons (ev_lst (ea_cons (ev_tup (ea_cons (ev_strS [110, 97, 109, 101]) (ea_cons (ev_var rfl) (ea_nil)))) (ea_nil))) (ea_nil))))) (by (try simp at h0 h1); simp [stName, h0, h1]; try rfl)))))

end
end K49

set_option Elab.async false
set_option linter.all false
/-! K49Mf: plain facts of the mirror that the walk leans on. -/
namespace K49
open PySem
theorem chrOf_len {n : Nat} {v : Tx} (h : chrOf n = some v) : v.length = 1 := by
  unfold chrOf at h
  split at h
  · cases h; rfl
  · cases h
theorem lookup_mem {α β : Type} [BEq α] [LawfulBEq α] {k : α} {v : β} : ∀ {l : List (α × β)}, l.lookup k = some v → (k, v) ∈ l
  | [], h => by simp at h
  | (a, b) :: l, h => by
    rw [List.lookup_cons] at h
    cases q : k == a with
    | true => rw [q] at h; cases h; rw [eq_of_beq q]; exact List.mem_cons_self
    | false => rw [q] at h; exact List.mem_cons_of_mem _ (lookup_mem h)
theorem NAMD_val {t v : Tx} (h : NAMD.lookup t = some v) : v.length ≤ 1 := by
  have z := lookup_mem h
  simp only [NAMD, List.mem_cons, Prod.mk.injEq, List.not_mem_nil, or_false] at z
  rcases z with ⟨_, rfl⟩ | ⟨_, rfl⟩ | ⟨_, rfl⟩ | ⟨_, rfl⟩ <;> decide
theorem refT_len {t v : Tx} (h : refT t = some v) : v.length ≤ 1 := by
  unfold refT at h
  split at h
  · rename_i w e
    cases h
    exact NAMD_val e
  · split at h
    · rw [chrOf_len h]; omega
    · cases h
theorem evs_len (k : Kd) (t : Tx) : (evs k t).length = t.length := by unfold evs; rw [List.length_map]
structure SOK (s : Sta) : Prop where
  el : s.el.length ≤ 6
  pd : s.pd.length ≤ 8
  kd : s.p.kd.isSome = true ∨ s.pd = []
theorem SOK.settl {s : Sta} (h : SOK s) : SOK (settl s) := ⟨h.el, by simp [K49.settl], .inr rfl⟩
def nxtR (n : Nxt) (c : Nat) : Res :=
  match n with
  | .go r => r
  | .again s' e => ((stpG s' c).1, e ++ (stpG s' c).2)
theorem stp_eq (s : Sta) (c : Nat) : stp s c = nxtR (stp1 s c) c := by
  unfold stp nxtR
  cases stp1 s c <;> rfl
theorem stpG_go {s : Sta} {c : Nat} {r : Res} (h : stp1 s c = .go r) : stpG s c = r := by unfold stpG; rw [h]
theorem stp_go {s : Sta} {c : Nat} {r : Res} (h : stp1 s c = .go r) : stp s c = r := by unfold stp; rw [h]
theorem stGap_len (s : Sta) (c : Nat) : (stGap s c).2.length ≤ 1 := by
  unfold stGap
  repeat' split
  all_goals simp
theorem stTag_len (s : Sta) (c : Nat) : (stTag s c).2.length ≤ 1 := by
  unfold stTag
  split
  · simp
  · exact stGap_len _ _
theorem stName_len (s : Sta) (c : Nat) : (stName s c).2.length ≤ 1 := by
  unfold stName
  split
  · exact stGap_len _ _
  · split <;> simp
theorem stRef_len {s : Sta} {c : Nat} {r : Res} (h : stRef s c = .go r) : r.2.length ≤ 1 := by
  unfold stRef at h
  split at h
  · rename_i v e
    cases h
    show (evs _ v).length ≤ 1
    rw [evs_len]
    exact refT_len e
  · split at h
    · cases h; simp
    · cases h
theorem go_len {s : Sta} {c : Nat} {r : Res} (h : stp1 s c = .go r) : r.2.length ≤ 1 := by
  unfold stp1 at h
  split at h
  · unfold stText at h
    split at h
    · exact stRef_len h
    · repeat' split at h
      all_goals first | (cases h; done) | (cases h; simp; done) | (unfold settA at h; cases h; done)
  · cases h; exact stTag_len _ _
  · cases h; exact stGap_len _ _
  · cases h; exact stName_len _ _
  · unfold stEq at h
    repeat' split at h
    all_goals first | (cases h; done) | (cases h; exact stGap_len _ _) | (cases h; simp; done)
  all_goals first
    | (unfold stVal at h
       split at h
       · exact stRef_len h
       · repeat' split at h
         all_goals first | (cases h; done) | (cases h; exact stGap_len _ _) | (cases h; simp; done))
    | (unfold stCom at h
       repeat' split at h
       all_goals first | (cases h; done) | (cases h; simp; done) | (unfold settA at h; cases h; done))
    | (unfold stRaw at h
       repeat' split at h
       all_goals first | (cases h; done) | (cases h; simp; done) | (unfold settA at h; cases h; done))
theorem calm_settl (s : Sta) (c : Nat) (h : s.p = .text ∨ s.p = .bare ∨ s.p = .double ∨ s.p = .single ∨ s.p = .comment ∨ s.p = .raw) : ∃ r, stp1 (settl s) c = .go r := by
  obtain ⟨p, el, pd⟩ := s
  rcases h with rfl | rfl | rfl | rfl | rfl | rfl
  · show ∃ r, stText ⟨.text, el, []⟩ c = .go r
    unfold stText
    rw [if_neg (by simp)]
    split
    · exact ⟨_, rfl⟩
    · exact ⟨_, by rw [if_pos rfl]⟩
  · show ∃ r, stVal ⟨.bare, el, []⟩ c = .go r
    unfold stVal
    rw [if_neg (by simp)]
    repeat' split
    all_goals exact ⟨_, rfl⟩
  · show ∃ r, stVal ⟨.double, el, []⟩ c = .go r
    unfold stVal
    rw [if_neg (by simp)]
    repeat' split
    all_goals exact ⟨_, rfl⟩
  · show ∃ r, stVal ⟨.single, el, []⟩ c = .go r
    unfold stVal
    rw [if_neg (by simp)]
    repeat' split
    all_goals exact ⟨_, rfl⟩
  · show ∃ r, stCom ⟨.comment, el, []⟩ c = .go r
    unfold stCom
    rw [if_neg (by simp), if_neg (by simp)]
    split
    · exact ⟨_, rfl⟩
    · exact ⟨_, by rw [if_neg (by simp)]⟩
  · show ∃ r, stRaw ⟨.raw, el, []⟩ c = .go r
    unfold stRaw
    rw [if_neg (by simp [goal])]
    split
    · exact ⟨_, rfl⟩
    · exact ⟨_, by rw [if_neg (by simp)]⟩
theorem again_of {s s' : Sta} {c : Nat} {e : List Evt} (h : stp1 s c = .again s' e) :
    (s' = settl s ∧ e = pendE s ∧ (s.p = .text ∨ s.p = .bare ∨ s.p = .double ∨ s.p = .single ∨ s.p = .comment ∨ s.p = .raw)) ∨ ((s'.p = .tag ∨ s'.p = .gap) ∧ s'.el.length ≤ 1 ∧ s'.pd = [] ∧ e.length ≤ 1 + s.el.length) ∨ (s'.p = .bare ∧ s'.el = s.el ∧ s'.pd = [] ∧ e.length ≤ 1) := by
  have hr : ∀ {s s' : Sta} {e : List Evt}, stRef s c = .again s' e → s' = settl s ∧ e = pendE s := fun {s s' e} h => by
    unfold stRef at h
    split at h
    · cases h
    · split at h
      · cases h
      · unfold settA at h; cases h; exact ⟨rfl, rfl⟩
  unfold stp1 at h
  split at h <;> rename_i hp
  · unfold stText at h
    split at h
    · exact .inl ⟨(hr h).1, (hr h).2, .inl hp⟩
    · repeat' split at h
      all_goals first
        | (cases h; done)
        | (unfold settA at h; cases h; exact .inl ⟨rfl, rfl, .inl hp⟩)
        | (cases h; exact .inr (.inl ⟨.inl rfl, by simp, rfl, by simp⟩))
  · cases h
  · cases h
  · cases h
  · unfold stEq at h
    repeat' split at h
    all_goals first
      | (cases h; done)
      | (cases h; exact .inr (.inr ⟨rfl, rfl, rfl, by simp⟩))
  all_goals first
    | (unfold stVal at h
       split at h
       · exact .inl ⟨(hr h).1, (hr h).2, by simp [hp]⟩
       · repeat' split at h
         all_goals (cases h; done))
    | (unfold stCom at h
       repeat' split at h
       all_goals first | (cases h; done) | (unfold settA at h; cases h; exact .inl ⟨rfl, rfl, by simp [hp]⟩))
    | (unfold stRaw at h
       repeat' split at h
       all_goals first | (cases h; done) | (unfold settA at h; cases h; exact .inl ⟨rfl, rfl, by simp [hp]⟩) | (cases h; exact .inr (.inl ⟨.inr rfl, by simp, rfl, by simp [evs_len]; omega⟩)))
theorem again_calm {s s' : Sta} {c : Nat} {e : List Evt} (h : stp1 s c = .again s' e) : ∃ r, stp1 s' c = .go r := by
  rcases again_of h with ⟨rfl, _, hp⟩ | ⟨hp, _, _, _⟩ | ⟨hp, _, hd, _⟩
  · exact calm_settl s c hp
  · unfold stp1
    rcases hp with hp | hp <;> rw [hp] <;> exact ⟨_, rfl⟩
  · have q := calm_settl s' c (by simp [hp])
    obtain ⟨p, el, pd⟩ := s'
    cases hd
    exact q
theorem again_ok {s s' : Sta} {c : Nat} {e : List Evt} (ok : SOK s) (h : stp1 s c = .again s' e) : SOK s' ∧ e.length ≤ 8 := by
  have h1 := ok.el
  have h2 := ok.pd
  rcases again_of h with ⟨rfl, rfl, hp⟩ | ⟨hp, hl, hd, he⟩ | ⟨hp, hl, hd, he⟩
  · refine ⟨ok.settl, ?_⟩
    unfold pendE
    rw [evs_len]; omega
  · exact ⟨⟨by omega, by rw [hd]; simp, .inr hd⟩, by omega⟩
  · exact ⟨⟨by rw [hl]; omega, by rw [hd]; simp, .inr hd⟩, by omega⟩
end K49

set_option Elab.async false
set_option linter.all false
set_option maxRecDepth 100000
/-! K49B: the reader's steps. -/
namespace K49
open PySem L2
/-! ### promises -/
def R_ra (b : Bool) : List PyData → PyData → Prop := fun l d => ∃ (s : Sta) (e : List Evt) (c : Nat), l = [s.d, evsD e, pS [c]] ∧ b = true ∧ SOK s ∧ (∃ r, stp1 s c = .go r) ∧ e.length ≤ 2000 ∧ d = Res.d ((stpG s c).1, e ++ (stpG s c).2)
def R_sar (b : Bool) : List PyData → PyData → Prop := fun l d => ∃ (s : Sta) (c : Nat), l = [s.d, pS [c]] ∧ b = true ∧ SOK s ∧ s.p.kd.isSome = true ∧ (∃ r, stp1 (settl s) c = .go r) ∧ d = Res.d (nxtR (settA s) c)
def R_sx (b : Bool) (pl : Pl → Prop) (f : Sta → Nat → Nxt) : List PyData → PyData → Prop := fun l d => ∃ (s : Sta) (c : Nat), l = [s.d, pS [c]] ∧ SOK s ∧ pl s.p ∧ (∀ s' e, f s c = .again s' e → b = true) ∧ (∀ s' e, f s c = .again s' e → ∃ r, stp1 s' c = .go r) ∧ d = Res.d (nxtR (f s c) c)
def R_step (b : Bool) : List PyData → PyData → Prop := fun l d => ∃ (s : Sta) (c : Nat), l = [s.d, pS [c]] ∧ SOK s ∧ (∀ s' e, stp1 s c = .again s' e → b = true) ∧ d = Res.d (stp s c)
def M_pending_events : List PyData → List PyData → Prop := fun l ls => ∃ s : Sta, l = [s.d] ∧ SOK s ∧ ls = (pendE s).map evD
def R_pend : List PyData → PyData → Prop := fun l d => ∃ ls, M_pending_events l ls ∧ d = .list ls
theorem kd_get {p : Pl} (h : p.kd.isSome = true) : (dS KNDL).lookup (SX.S p.t) = some (V.str (SX.S p.kd!.t)) := by
  rw [dS_look]
  cases p <;> first | (cases h; done) | rfl
theorem kd_in {p : Pl} : ((dS KNDL).lookup (SX.S p.t)).isSome = p.kd.isSome := by
  rw [dS_look]
  cases p <;> rfl
theorem evs_d (k : Kd) (t : Tx) : (evs k t).map evD = t.map fun c => PyData.tuple [pS k.t, pS [c]] := by
  unfold evs
  rw [List.map_map]
  rfl
theorem evs_app (a b : List Evt) : evsD (a ++ b) = .list (a.map evD ++ b.map evD) := by unfold evsD; rw [List.map_append]
section
variable {P : Program} {w : World} {K : PySem.W.Frag} {mg : Str → Option Value} {base : Heap}

theorem sc_pending_events : FnScope ["state", "char"] ["state"] (defScope s_pending_events) := ⟨rfl, rfl, rfl, by decide +kernel, rfl, by decide +kernel, by decide +kernel⟩
theorem cal_pending_events (T : Fx K w mg) : CalM P w K mg base 1 "pending_events" M_pending_events := by
  refine cal_ofM T.f_pending_events sc_pending_events (fun _ _ _ _ _ _ us hl => match us, hl with | [_], _ => rfl) ?_ (fun f cdv A outer s H E hr => ⟨_, pss_one (ps_ret (pe_lc rfl sc_pending_events.nd (pi_str (pe_ix (ix_tupK (K := K) rfl) (pv 0) (pe_int) (fun _ _ => rfl))) (blkOk_by (own := [("char", 1)]) (N := ["state", "char"]) (sc := defScope s_pending_events) (by decide +kernel)) (fun _ _ _ _ _ => pg_name (i := 1) sc_pending_events.nd rfl (.inl rfl)) (fun _ _ _ _ _ => pts_nil) (fun _ _ _ _ _ => pe_tup (pa_cons (pe_ix (ix_D T.d_KINDS) (C8.pe_gc rfl T.g_KINDS) (pe_ix (ix_tupK (K := K) rfl) (pv 0) (pe_int) (fun _ _ => rfl)) (fun _ _ => rfl)) (pa_cons (pv 1) (pa_nil)))))), ?_⟩)
  · intro l d h
    obtain ⟨s, rfl, _⟩ := h
    rfl
  · intro l d h
    obtain ⟨s, rfl, ok, rfl⟩ := h
    rw [pendE, evs_d]
    rcases ok.kd with hk | hk
    · have hl := ok.pd
      exact em_lcS _ (ev_op (ev_var rfl) (ev_int) (rv_ixT rfl)) (by first | assumption | omega) (fun _ _ => ev_tup (ea_cons (ev_getD (ev_op (ev_var rfl) (ev_int) (rv_ixT rfl)) (kd_get hk) (fun _ => .str _)) (ea_cons (ev_var rfl) (ea_nil))))
    · have e0 : s.pd.map (fun c => PyData.tuple [pS s.p.kd!.t, pS [c]]) = s.pd.map (fun c => PyData.none) := by rw [hk]; rfl
      rw [e0]
      exact em_lcS _ (ev_op (ev_var rfl) ev_int (rv_ixT rfl)) (by have := ok.pd; omega) (fun c hc => by rw [hk] at hc; cases hc)
theorem cal_pend (T : Fx K w mg) : CalR P w K mg base 1 "pending_events" R_pend := cal_M (cal_pending_events T)

theorem sc_read_again : FnScope ["state", "events", "char", "after", "more"] ["state", "events", "char"] (defScope s_read_again) := ⟨rfl, rfl, rfl, by decide +kernel, rfl, by decide +kernel, by decide +kernel⟩
theorem cal_read_again (T : Fx K w mg) (c_step : CalR P w K mg base j "step" (R_step false))  : CalR P w K mg base (j + 1) "read_again" (R_ra true) := by
  refine cal_of T.f_read_again sc_read_again (fun _ _ _ _ _ _ us hl => match us, hl with | [_, _, _], _ => rfl) ?_ (fun f cdv A outer s H E hr => ⟨_, pss_cons (ps_asg (C8.pe_c c_step hr (by omega) rfl (pa_cons (pv 0) (pa_cons (pv 2) (pa_nil)))) (pg_tupK (K := K) rfl rfl (pgs_cons (pg_name (i := 3) sc_read_again.nd rfl (.inl rfl)) (pgs_cons (pg_name (i := 4) sc_read_again.nd rfl (.inl rfl)) (pgs_nil)))))
      (pss_one (ps_ret (pe_tup (pa_cons (pv 3) (pa_cons (pe_op op_cat (pv 1) (pv 4)) (pa_nil)))))), ?_⟩)
  · intro l d h
    obtain ⟨s, e, c, rfl, _, ok, hc, he, rfl⟩ := h
    rfl
  · intro l d h
    obtain ⟨s, e, c, rfl, _, ok, hc, he, rfl⟩ := h
    obtain ⟨r, hr'⟩ := id hc
    have e1 : stp s c = stpG s c := (stp_go hr').trans (stpG_go hr').symm
    have hlen : (stpG s c).2.length ≤ 1 := by rw [stpG_go hr']; exact go_len hr'
    rw [← e1] at hlen ⊢
    have evs_app_ := evs_app e (stp s c).2
    exact sd_seq (sd_asg (ev_call (ea_cons (ev_var rfl) (ea_cons (ev_var rfl) (ea_nil))) ⟨s, c, rfl, ok, (fun s1 e1 z => by obtain ⟨r, hr⟩ := hc; rw [hr] at z; cases z), rfl⟩) tgt_tup2)
      (sd_is (sd_ret (ev_tup (ea_cons (ev_var rfl) (ea_cons (ev_op (ev_var rfl) (ev_var rfl) (rv_cat (by simp; have := hlen; omega))) (ea_nil))))) (by rw [← evs_app_]; rfl))

theorem sc_settle_and_read : FnScope ["state", "char"] ["state", "char"] (defScope s_settle_and_read) := ⟨rfl, rfl, rfl, by decide +kernel, rfl, by decide +kernel, by decide +kernel⟩
theorem cal_settle_and_read (T : Fx K w mg) (c_settled : CalR P w K mg base 1 "settled" R_settled) (c_pending_events : CalR P w K mg base 1 "pending_events" R_pend) (c_read_again : CalR P w K mg base j "read_again" (R_ra true)) (hj : 1 ≤ j) : CalR P w K mg base (j + 1) "settle_and_read" (R_sar true) := by
  refine cal_of T.f_settle_and_read sc_settle_and_read (fun _ _ _ _ _ _ us hl => match us, hl with | [_, _], _ => rfl) ?_ (fun f cdv A outer s H E hr => ⟨_, pss_one (ps_ret (C8.pe_c c_read_again hr (by omega) rfl (pa_cons (C8.pe_c c_settled hr (by omega) rfl (pa_cons (pv 0) (pa_nil))) (pa_cons (C8.pe_c c_pending_events hr (by omega) rfl (pa_cons (pv 0) (pa_nil))) (pa_cons (pv 1) (pa_nil)))))), ?_⟩)
  · intro l d h
    obtain ⟨s, c, rfl, _, ok, hk, hc, rfl⟩ := h
    rfl
  · intro l d h
    obtain ⟨s, c, rfl, _, ok, hk, hc, rfl⟩ := h
    exact sd_ret (ev_call (ea_cons (ev_call (ea_cons (ev_var rfl) (ea_nil)) ⟨_, rfl, rfl⟩) (ea_cons (ev_call (ea_cons (ev_var rfl) (ea_nil)) ⟨_, ⟨s, rfl, ok, rfl⟩, rfl⟩) (ea_cons (ev_var rfl) (ea_nil)))) ⟨_, pendE s, _, rfl, rfl, ok.settl, hc, by rw [pendE, evs_len]; have := ok.pd; omega, rfl⟩)

theorem sc_step_reference : FnScope ["state", "char", "text", "value", "one"] ["state", "char"] (defScope s_step_reference) := ⟨rfl, rfl, rfl, by decide +kernel, rfl, by decide +kernel, by decide +kernel⟩
theorem cal_step_reference (T : Fx K w mg) (c_reference_text : CalR P w K mg base 2 "reference_text" R_reference_text) (c_settled : CalR P w K mg base 1 "settled" R_settled) (c_is_beginning : CalR P w K mg base 7 "is_beginning" R_is_beginning) (c_settle_and_read : CalR P w K mg base j "settle_and_read" (R_sar b)) (hj : 7 ≤ j) : CalR P w K mg base (j + 1) "step_reference" (R_sx b (fun p => p.kd.isSome = true) stRef) := by
  refine cal_of T.f_step_reference sc_step_reference (fun _ _ _ _ _ _ us hl => match us, hl with | [_, _], _ => rfl) ?_ (fun f cdv A outer s H E hr => ⟨_, pss_cons (ps_set (i := 2) sc_step_reference.nd rfl (.inl rfl) (pe_op op_add_str (pe_ix (ix_tupK (K := K) rfl) (pv 0) (pe_int) (fun _ _ => rfl)) (pv 1)))
      (pss_cons (ps_set (i := 3) sc_step_reference.nd rfl (.inl rfl) (C8.pe_c c_reference_text hr (by omega) rfl (pa_cons (pv 2) (pa_nil))))
      (pss_cons (ps_if (pt_cmpR op_notN (pv 3) (pe_non) (by first | exact nomark _ | rfl))
       (pss_one (ps_ret (pe_tup (pa_cons (C8.pe_c c_settled hr (by omega) rfl (pa_cons (pv 0) (pa_nil))) (pa_cons (pe_lc rfl sc_step_reference.nd (pi_str (pv 3)) (blkOk_by (own := [("one", 4)]) (N := ["state", "char", "text", "value", "one"]) (sc := defScope s_step_reference) (by decide +kernel)) (fun _ _ _ _ _ => pg_name (i := 4) sc_step_reference.nd rfl (.inl rfl)) (fun _ _ _ _ _ => pts_nil) (fun _ _ _ _ _ => pe_tup (pa_cons (pe_ix (ix_D T.d_KINDS) (C8.pe_gc rfl T.g_KINDS) (pe_ix (ix_tupK (K := K) rfl) (pv 0) (pe_int) (fun _ _ => rfl)) (fun _ _ => rfl)) (pa_cons (pv 4) (pa_nil))))) (pa_nil))))))
       (pss_nil))
      (pss_cons (ps_if (pt_val (C8.pe_c c_is_beginning hr (by omega) rfl (pa_cons (pv 2) (pa_nil))))
       (pss_one (ps_ret (pe_tup (pa_cons (pe_tup (pa_cons (pe_ix (ix_tupK (K := K) rfl) (pv 0) (pe_int) (fun _ _ => rfl)) (pa_cons (pe_ix (ix_tupK (K := K) rfl) (pv 0) (pe_int) (fun _ _ => rfl)) (pa_cons (pv 2) (pa_nil))))) (pa_cons (pe_lst pa_nil) (pa_nil))))))
       (pss_nil))
      (pss_one (ps_ret (C8.pe_c c_settle_and_read hr (by omega) rfl (pa_cons (pv 0) (pa_cons (pv 1) (pa_nil))))))))), ?_⟩)
  · intro l d h
    obtain ⟨s, c, rfl, ok, hk, hb, hcalm, rfl⟩ := h
    rfl
  · intro l d h
    obtain ⟨s, c, rfl, ok, hk, hb, hcalm, rfl⟩ := h
    cases hv : refT (s.pd ++ [c]) with
    | some v =>
      have hA : nxtR (stRef s c) c = (settl s, evs s.p.kd! v) := by unfold stRef; rw [hv]; rfl
      exact sd_seq (sd_set (ev_op (ev_op (ev_var rfl) (ev_int) (rv_ixT rfl)) (ev_var rfl) (rv_catS (by simp; have := ok.pd; omega))))
            (sd_seq (sd_set (ev_call (ea_cons (ev_var rfl) (ea_nil)) (show R_reference_text [pS (s.pd ++ [c])] (optD ((some v))) from ⟨_, rfl, by simp; have := ok.pd; omega, by rw [hv]⟩)))
            (sd_ifq (et_test (ev_op (ev_var rfl) (ev_non) (rv_notN (b := true) (.inl ⟨_, rfl, rfl⟩))))
             (fun h0 => sd_seqR (sd_is (sd_ret (ev_tup (ea_cons (ev_call (ea_cons (ev_var rfl) (ea_nil)) ⟨_, rfl, rfl⟩) (ea_cons (ev_lcS _ (ev_var rfl) (by have := refT_len hv; omega) (fun _ _ => ev_tup (ea_cons (ev_getD (ev_op (ev_var rfl) (ev_int) (rv_ixT rfl)) (kd_get hk) (fun _ => .str _)) (ea_cons (ev_var rfl) (ea_nil))))) (ea_nil))))) (by rw [hA]; show _ = Out.ret (Res.d (settl s, evs s.p.kd! v)); unfold Res.d evsD; rw [evs_d])))
             (fun h0 => nomatch h0)))
    | none =>
      have hB : isBeg (s.pd ++ [c]) = true → nxtR (stRef s c) c = (⟨s.p, s.el, s.pd ++ [c]⟩, []) := fun z => by unfold stRef; rw [hv]; simp only; rw [if_pos z]; rfl
      have hC : isBeg (s.pd ++ [c]) = false → stRef s c = settA s := fun z => by unfold stRef; rw [hv]; simp only; rw [z]; rfl
      exact sd_seq (sd_set (ev_op (ev_op (ev_var rfl) (ev_int) (rv_ixT rfl)) (ev_var rfl) (rv_catS (by simp; have := ok.pd; omega))))
            (sd_seq (sd_set (ev_call (ea_cons (ev_var rfl) (ea_nil)) (show R_reference_text [pS (s.pd ++ [c])] (optD (none)) from ⟨_, rfl, by simp; have := ok.pd; omega, by rw [hv]⟩)))
            (sd_ifq (et_test (ev_op (ev_var rfl) (ev_non) (rv_notN (b := false) (.inr (.inr ⟨rfl, rfl⟩)))))
             (fun h0 => nomatch h0)
             (fun h0 => sd_nextq (sd_ifq (et_B (ev_call (ea_cons (ev_var rfl) (ea_nil)) ⟨_, rfl, by simp; have := ok.pd; omega, rfl⟩))
             (fun h1 => sd_seqR (sd_is (sd_ret (ev_tup (ea_cons (ev_tup (ea_cons (ev_op (ev_var rfl) (ev_int) (rv_ixT rfl)) (ea_cons (ev_op (ev_var rfl) (ev_int) (rv_ixT rfl)) (ea_cons (ev_var rfl) (ea_nil))))) (ea_cons (ev_lst (ea_nil)) (ea_nil))))) (by rw [hB h1]; rfl)))
             (fun h1 => sd_nextq (sd_is (sd_ret (ev_call (ea_cons (ev_var rfl) (ea_cons (ev_var rfl) (ea_nil))) ⟨s, c, rfl, hb _ _ (hC h1), ok, hk, hcalm _ _ (hC h1), rfl⟩)) (by rw [hC h1])))))))

end
end K49

set_option Elab.async false
set_option linter.all false
/-! K49Inv: what holds of every state that the reader reaches. -/
namespace K49
open PySem
def Good (s : Sta) : Prop :=
  match s.p with
  | .text => s.el = [] ∧ (s.pd = [] ∨ s.pd = [60] ∨ s.pd = [60, 47] ∨ s.pd = [60, 33] ∨ s.pd = [60, 33, 45] ∨ isBeg s.pd = true)
  | .tag => s.el.length ≤ 6 ∧ s.pd = []
  | .gap => s.el.length ≤ 6 ∧ s.pd = []
  | .name => s.el.length ≤ 6 ∧ s.pd = []
  | .equals => s.el.length ≤ 6 ∧ s.pd = []
  | .bare => s.el.length ≤ 6 ∧ (s.pd = [] ∨ isBeg s.pd = true)
  | .double => s.el.length ≤ 6 ∧ (s.pd = [] ∨ isBeg s.pd = true)
  | .single => s.el.length ≤ 6 ∧ (s.pd = [] ∨ isBeg s.pd = true)
  | .comment => s.el = [] ∧ (s.pd = [] ∨ s.pd = [45] ∨ s.pd = [45, 45])
  | .raw => s.el.length ≤ 6 ∧ s.pd = (goal s).take s.pd.length
theorem isNum_len {t : Tx} (h : isNum t = true) : t.length ≤ 3 := by
  unfold isNum at h
  by_cases q : t = [] ∨ 3 < t.length
  · rw [if_pos q] at h; cases h
  · rw [not_or] at q; omega
theorem leads_len {t : Tx} (h : leads t = true) : t.length ≤ 3 := by
  unfold leads leadsF at h
  by_cases q : isNum t = true
  · exact isNum_len q
  · rw [if_neg q] at h; cases h
theorem take_len {t u : Tx} {n : Nat} (h : u.take n = t) : t.length ≤ u.length := by
  rw [← h, List.length_take]; omega
theorem isBeg_len {t : Tx} (h : isBeg t = true) : t.length ≤ 5 ∧ t ≠ [] ∧ t.take 1 = [38] := by
  unfold isBeg at h
  by_cases h1 : t = [38] ∨ t = [38, 35]
  · rcases h1 with rfl | rfl <;> simp
  · rw [if_neg h1] at h
    by_cases h2 : t.take 2 = [38, 35]
    · rw [if_pos h2] at h
      have z := leads_len h
      rw [List.length_drop] at z
      have e : t.take 1 = [38] := by
        have : t.take 1 = (t.take 2).take 1 := by rw [List.take_take]; rfl
        rw [this, h2]; rfl
      exact ⟨by omega, (fun z => by rw [z] at h2; cases h2), e⟩
    · rw [if_neg h2] at h
      by_cases h3 : t = []
      · rw [if_pos h3] at h; cases h
      · rw [if_neg h3] at h
        obtain ⟨a, ha, hb⟩ := List.any_eq_true.mp h
        simp only [Bool.and_eq_true, decide_eq_true_eq] at hb
        have hp : ∀ u : Tx, u.take 1 = [38] → u.length ≤ 5 → u.take t.length = t → t.length ≤ 5 ∧ t.take 1 = [38] := fun u h4 h5 h6 => by
          refine ⟨Nat.le_trans (take_len h6) h5, ?_⟩
          rw [← h6, List.take_take]
          have hl : 1 ≤ t.length := by cases t with | nil => exact absurd rfl h3 | cons _ _ => simp
          rw [Nat.min_eq_left hl]; exact h4
        simp only [NAMD, List.mem_cons, List.not_mem_nil, or_false] at ha
        rcases ha with rfl | rfl | rfl | rfl
        all_goals
          have q := hp _ rfl (by decide) hb.2
          exact ⟨q.1, h3, q.2⟩
theorem Good.sok {s : Sta} (h : Good s) : SOK s := by
  obtain ⟨p, el, pd⟩ := s
  unfold Good at h
  cases p <;> simp only at h
  · obtain ⟨rfl, h⟩ := h
    refine ⟨by simp, ?_, .inl rfl⟩
    rcases h with rfl | rfl | rfl | rfl | rfl | h
    all_goals first | (simp; done) | (have := (isBeg_len h).1; simp only; omega)
  · obtain ⟨h, rfl⟩ := h
    exact ⟨by simp only; omega, by simp, .inr rfl⟩
  · obtain ⟨h, rfl⟩ := h
    exact ⟨by simp only; omega, by simp, .inr rfl⟩
  · obtain ⟨h, rfl⟩ := h
    exact ⟨by simp only; omega, by simp, .inr rfl⟩
  · obtain ⟨h, rfl⟩ := h
    exact ⟨by simp only; omega, by simp, .inr rfl⟩
  · obtain ⟨h, h2⟩ := h
    refine ⟨by simp only; omega, ?_, .inl rfl⟩
    rcases h2 with rfl | h2
    · simp
    · have := (isBeg_len h2).1; simp only; omega
  · obtain ⟨h, h2⟩ := h
    refine ⟨by simp only; omega, ?_, .inl rfl⟩
    rcases h2 with rfl | h2
    · simp
    · have := (isBeg_len h2).1; simp only; omega
  · obtain ⟨h, h2⟩ := h
    refine ⟨by simp only; omega, ?_, .inl rfl⟩
    rcases h2 with rfl | h2
    · simp
    · have := (isBeg_len h2).1; simp only; omega
  · obtain ⟨rfl, h⟩ := h
    refine ⟨by simp, ?_, .inl rfl⟩
    rcases h with rfl | rfl | rfl <;> simp
  · obtain ⟨h, h2⟩ := h
    refine ⟨by simp only; omega, ?_, .inl rfl⟩
    have z := take_len h2.symm
    simp only [goal, List.length_append, List.length_cons, List.length_nil] at z
    simp only; omega
theorem Good.settl {s : Sta} (h : Good s) (hk : s.p.kd.isSome = true) : Good (settl s) := by
  obtain ⟨p, el, pd⟩ := s
  unfold Good at h
  unfold Good K49.settl
  cases p <;> first | (cases hk; done) | skip
  · exact ⟨h.1, .inl rfl⟩
  · exact ⟨h.1, .inl rfl⟩
  · exact ⟨h.1, .inl rfl⟩
  · exact ⟨h.1, .inl rfl⟩
  · exact ⟨h.1, .inl rfl⟩
  · exact ⟨h.1, rfl⟩
theorem longer_len (el : Tx) (c : Nat) : (longer el c).length ≤ 6 := by
  unfold longer
  split
  · rename_i h
    rcases h.2 with z | z
    · exact Nat.le_trans (take_len z) (by decide)
    · exact Nat.le_trans (take_len z) (by decide)
  · decide
theorem start_good : Good start := ⟨rfl, .inl rfl⟩
theorem stGap_good {s : Sta} {c : Nat} (hp : s.p = .gap) (h : Good s) : Good (stGap s c).1 := by
  obtain ⟨p, el, pd⟩ := s
  cases hp
  have h1 : el.length ≤ 6 := h.1
  unfold stGap
  split
  · exact h
  · split
    · exact ⟨h1, rfl⟩
    · split
      · exact start_good
      · exact ⟨h1, rfl⟩
theorem nxt_good {s : Sta} {c : Nat} (h : Good s) : (∀ r, stp1 s c = .go r → Good r.1) ∧ (∀ s' e, stp1 s c = .again s' e → Good s') := by
  have gap : ∀ el : Tx, el.length ≤ 6 → Good (stGap ⟨.gap, el, []⟩ c).1 := fun el hl => stGap_good rfl ⟨hl, rfl⟩
  have ref : s.p.kd.isSome = true → (isBeg (s.pd ++ [c]) = true → Good ⟨s.p, s.el, s.pd ++ [c]⟩) → (∀ r, stRef s c = .go r → Good r.1) ∧ (∀ s' e, stRef s c = .again s' e → Good s') := fun hk hb => by
    unfold stRef
    cases refT (s.pd ++ [c]) with
    | some v =>
      refine ⟨fun r z => ?_, fun s' e z => (by cases z)⟩
      cases z; exact h.settl hk
    | none =>
      simp only
      by_cases q : isBeg (s.pd ++ [c]) = true
      · rw [if_pos q]
        refine ⟨fun r z => ?_, fun s' e z => (by cases z)⟩
        cases z; exact hb q
      · rw [if_neg q]
        refine ⟨fun r z => (by cases z), fun s' e z => ?_⟩
        cases z; exact h.settl hk
  have set : s.p.kd.isSome = true → (∀ r, settA s = .go r → Good r.1) ∧ (∀ s' e, settA s = .again s' e → Good s') := fun hk => by
    refine ⟨fun r z => by (unfold settA at z; cases z), fun s' e z => ?_⟩
    unfold settA at z; cases z; exact h.settl hk
  obtain ⟨p, el, pd⟩ := s
  have h' := h
  unfold Good at h'
  have go : ∀ {r0 : Res}, Good r0.1 → (∀ r, Nxt.go r0 = .go r → Good r.1) ∧ (∀ s' e, Nxt.go r0 = .again s' e → Good s') := fun hg => ⟨fun r z => (by cases z; exact hg), fun s' e z => (by cases z)⟩
  have ag : ∀ {s0 : Sta} {e0 : List Evt}, Good s0 → (∀ r, Nxt.again s0 e0 = .go r → Good r.1) ∧ (∀ s' e, Nxt.again s0 e0 = .again s' e → Good s') := fun hg => ⟨fun r z => (by cases z), fun s' e z => (by cases z; exact hg)⟩
  have val : (p = .bare ∨ p = .double ∨ p = .single) → (∀ r, stVal ⟨p, el, pd⟩ c = .go r → Good r.1) ∧ (∀ s' e, stVal ⟨p, el, pd⟩ c = .again s' e → Good s') := fun hp => by
    have hl : el.length ≤ 6 := by rcases hp with rfl | rfl | rfl <;> exact h'.1
    have hk : p.kd.isSome = true := by rcases hp with rfl | rfl | rfl <;> rfl
    unfold stVal
    split
    · refine ref hk fun q => ?_
      rcases hp with rfl | rfl | rfl <;> exact ⟨hl, .inr q⟩
    · split
      · refine go ?_
        rcases hp with rfl | rfl | rfl <;> exact ⟨hl, .inr (show isBeg [38] = true by decide)⟩
      · split
        · exact go (gap el hl)
        · split
          · exact go ⟨hl, rfl⟩
          · exact go h
  cases p
  · -- text
    obtain ⟨he, _⟩ := h'
    simp only at he
    subst he
    show (∀ r, stText ⟨.text, [], pd⟩ c = .go r → Good r.1) ∧ (∀ s' e, stText ⟨.text, [], pd⟩ c = .again s' e → Good s')
    unfold stText
    simp only
    split
    · exact ref rfl fun q => ⟨rfl, by simp [q]⟩
    · split
      · rename_i q
        refine go ⟨rfl, ?_⟩
        have z := q.2
        simp only [List.mem_cons, List.not_mem_nil, or_false] at z
        rcases z with rfl | rfl
        · simp
        · simp only; right; right; right; right; right; decide
      · split
        · exact go h
        · split
          · exact ag ⟨by simp, rfl⟩
          · split
            · exact ag ⟨by simp, rfl⟩
            · split
              · rename_i q
                refine go ⟨rfl, ?_⟩
                rcases q with ⟨rfl, z⟩ | ⟨rfl, rfl⟩
                · simp only [List.mem_cons, List.not_mem_nil, or_false] at z
                  rcases z with rfl | rfl <;> simp
                · simp
              · split
                · exact go ⟨rfl, .inl rfl⟩
                · exact set rfl
  · -- tag
    show (∀ r, Nxt.go (stTag ⟨.tag, el, pd⟩ c) = .go r → Good r.1) ∧ _
    refine go ?_
    unfold stTag
    split
    · exact ⟨longer_len _ _, rfl⟩
    · refine gap _ ?_
      split
      · exact h'.1
      · decide
  · exact go (stGap_good rfl h)
  · show (∀ r, Nxt.go (stName ⟨.name, el, pd⟩ c) = .go r → Good r.1) ∧ _
    refine go ?_
    unfold stName
    split
    · exact gap _ h'.1
    · split
      · exact ⟨h'.1, rfl⟩
      · exact h
  · show (∀ r, stEq ⟨.equals, el, pd⟩ c = .go r → Good r.1) ∧ (∀ s' e, stEq ⟨.equals, el, pd⟩ c = .again s' e → Good s')
    unfold stEq
    split
    · exact go ⟨h'.1, .inl rfl⟩
    · split
      · exact go ⟨h'.1, .inl rfl⟩
      · split
        · exact go (gap _ h'.1)
        · exact ag ⟨h'.1, .inl rfl⟩
  · exact val (by simp)
  · exact val (by simp)
  · exact val (by simp)
  · -- comment
    obtain ⟨he, hq⟩ := h'
    simp only at he hq
    subst he
    show (∀ r, stCom ⟨.comment, [], pd⟩ c = .go r → Good r.1) ∧ (∀ s' e, stCom ⟨.comment, [], pd⟩ c = .again s' e → Good s')
    unfold stCom
    split
    · exact go start_good
    · split
      · exact go h
      · split
        · rename_i q
          refine go ⟨rfl, ?_⟩
          rcases hq with rfl | rfl | rfl
          · simp
          · simp
          · exact absurd rfl q.1
        · split
          · exact set rfl
          · exact go h
  · -- raw
    show (∀ r, stRaw ⟨.raw, el, pd⟩ c = .go r → Good r.1) ∧ (∀ s' e, stRaw ⟨.raw, el, pd⟩ c = .again s' e → Good s')
    unfold stRaw
    split
    · exact ag ⟨by simp, rfl⟩
    · split
      · rename_i q
        exact go ⟨h'.1, q.symm⟩
      · split
        · exact set rfl
        · exact go h
theorem stpG_good {s : Sta} {c : Nat} (h : Good s) : Good (stpG s c).1 := by
  unfold stpG
  cases q : stp1 s c with
  | go r => exact (nxt_good h).1 r q
  | again s' e => exact h
theorem stp_good {s : Sta} {c : Nat} (h : Good s) : Good (stp s c).1 := by
  unfold stp
  cases q : stp1 s c with
  | go r => exact (nxt_good h).1 r q
  | again s' e => exact stpG_good ((nxt_good h).2 s' e q)
theorem mkStp_good {s : Sta} {n : Nat} (h : Good s) : Good (mkStp s n).1 := by
  obtain ⟨p, el, pd⟩ := s
  cases p
  · exact h.settl rfl
  · exact ⟨show ([45] : Tx).length ≤ 6 by decide, rfl⟩
  · exact ⟨h.1, rfl⟩
  · exact h
  · exact ⟨h.1, .inl rfl⟩
  · exact h.settl rfl
  · exact h.settl rfl
  · exact h.settl rfl
  · exact h.settl rfl
  · exact h.settl rfl
theorem itStp_good {s : Sta} {i : Itm} (h : Good s) : Good (itStp s i).1 := by
  cases i with
  | ch c => exact stp_good h
  | mk n => exact mkStp_good h
theorem run_good : ∀ (r : List Itm) {s : Sta}, Good s → Good (runR s r).1
  | [], s, h => h
  | i :: r, s, h => run_good r (itStp_good h)
theorem sok_run (r : List Itm) : SOK (runR start r).1 := (run_good r start_good).sok
theorem runR_app (r' : List Itm) : ∀ (r : List Itm) (s : Sta), runR s (r ++ r') = ((runR (runR s r).1 r').1, (runR s r).2 ++ (runR (runR s r).1 r').2)
  | [], s => by simp [runR]
  | j :: r, s => by
    rw [List.cons_append]
    show ((runR (itStp s j).1 (r ++ r')).1, (itStp s j).2 ++ (runR (itStp s j).1 (r ++ r')).2) = _
    rw [runR_app r' r]
    show _ = ((runR (runR (itStp s j).1 r).1 r').1, ((itStp s j).2 ++ (runR (itStp s j).1 r).2) ++ (runR (runR (itStp s j).1 r).1 r').2)
    rw [List.append_assoc]
theorem runR_snoc (i : Itm) (r : List Itm) (s : Sta) : runR s (r ++ [i]) = ((itStp (runR s r).1 i).1, (runR s r).2 ++ (itStp (runR s r).1 i).2) := by
  rw [runR_app]
  simp [runR]
theorem stpG_len (s : Sta) (c : Nat) : (stpG s c).2.length ≤ 1 := by
  unfold stpG
  cases q : stp1 s c with
  | go r => exact go_len q
  | again s' e => simp
theorem itStp_len {s : Sta} (i : Itm) (h : SOK s) : (itStp s i).2.length ≤ 9 := by
  have h2 := h.pd
  cases i with
  | ch c =>
    show (stp s c).2.length ≤ 9
    unfold stp
    cases q : stp1 s c with
    | go r => have := go_len q; simp only; omega
    | again s' e =>
      have z := (again_ok h q).2
      have w := stpG_len s' c
      simp only [List.length_append]
      omega
  | mk n =>
    show (mkStp s n).2.length ≤ 9
    unfold mkStp
    repeat' split
    all_goals first | (simp; done) | (simp [pendE, evs_len]; omega)
theorem run_len (r : List Itm) : (runR start r).2.length ≤ 9 * r.length := by
  suffices h : ∀ n, n ≤ r.length → (runR start (r.take n)).2.length ≤ 9 * n by
    have := h r.length (Nat.le_refl _)
    rwa [List.take_length] at this
  intro n
  induction n with
  | zero => intro _; simp [runR]
  | succ n ih =>
    intro hn
    have e : r.take (n + 1) = r.take n ++ [r[n]] := by rw [List.take_add_one, List.getElem?_eq_getElem hn]; rfl
    rw [e, runR_snoc]
    have z := itStp_len r[n] (sok_run (r.take n))
    have w := ih (by omega)
    simp only [List.length_append]
    omega
theorem finE_len {s : Sta} (h : SOK s) : (finE s).length ≤ 9 := by
  have h2 := h.pd
  unfold finE
  rw [List.length_append]
  have h3 : (if s.p.kd.isSome = true then pendE s else []).length ≤ 8 := by
    split
    · rw [pendE, evs_len]; omega
    · simp
  have h4 : (if s.p = Pl.text ∨ s.p = Pl.raw then [] else [((Kd.close, Item.tx []) : Evt)]).length ≤ 1 := by split <;> simp
  omega
end K49

set_option Elab.async false
set_option linter.all false
set_option maxRecDepth 100000
/-! K49C: the reader's steps by place, the reader. -/
namespace K49
open PySem L2
theorem pt_bare (p : Pl) : (p.t = [98, 97, 114, 101]) = (p = .bare) := by cases p <;> simp [Pl.t]
theorem qu_get {p : Pl} (h : p = .bare ∨ p = .double ∨ p = .single) (hq : (!decide (p.t = [98, 97, 114, 101])) = true) : (dS QUOL).lookup (SX.S p.t) = some (V.str (SX.S [quote p])) := by
  rw [dS_look]
  rcases h with rfl | rfl | rfl
  · cases hq
  · rfl
  · rfl
section
variable {P : Program} {w : World} {K : PySem.W.Frag} {mg : Str → Option Value} {base : Heap}

theorem sc_step_text : FnScope ["state", "char", "pending"] ["state", "char"] (defScope s_step_text) := ⟨rfl, rfl, rfl, by decide +kernel, rfl, by decide +kernel, by decide +kernel⟩
theorem cal_step_text (T : Fx K w mg) (c_step_reference : CalR P w K mg base j "step_reference" (R_sx b (fun p => p.kd.isSome = true) stRef)) (c_read_again : CalR P w K mg base j "read_again" (R_ra b)) (c_settle_and_read : CalR P w K mg base j "settle_and_read" (R_sar b)) (hj : 1 ≤ j) : CalR P w K mg base (j + 1) "step_text" (R_sx b (fun p => p = .text) stText) := by
  refine cal_of T.f_step_text sc_step_text (fun _ _ _ _ _ _ us hl => match us, hl with | [_, _], _ => rfl) ?_ (fun f cdv A outer s H E hr => ⟨_, pss_cons (ps_set (i := 2) sc_step_text.nd rfl (.inl rfl) (pe_ix (ix_tupK (K := K) rfl) (pv 0) (pe_int) (fun _ _ => rfl)))
      (pss_cons (ps_if (pt_cmpR op_eq (pe_slice sl_str (pv 2) (po_none) (po_some (pe_int))) (pe_str) (by first | exact nomark _ | rfl))
       (pss_one (ps_ret (C8.pe_c c_step_reference hr (by omega) rfl (pa_cons (pv 0) (pa_cons (pv 1) (pa_nil))))))
       (pss_nil))
      (pss_cons (ps_if (PW.pt (pw_and (pt_cmpR op_eq (pv 2) (pe_str) (by first | exact nomark _ | rfl)) (pw_and1 (pt_cmpR op_in_sign (pv 1) (pe_str) (by first | exact nomark _ | rfl)))))
       (pss_one (ps_ret (pe_tup (pa_cons (pe_tup (pa_cons (pe_str) (pa_cons (pe_str) (pa_cons (pv 1) (pa_nil))))) (pa_cons (pe_lst pa_nil) (pa_nil))))))
       (pss_nil))
      (pss_cons (ps_if (pt_cmpR op_eq (pv 2) (pe_str) (by first | exact nomark _ | rfl))
       (pss_one (ps_ret (pe_tup (pa_cons (pv 0) (pa_cons (pe_lst (pa_cons (pe_tup (pa_cons (pe_str) (pa_cons (pv 1) (pa_nil)))) (pa_nil))) (pa_nil))))))
       (pss_nil))
      (pss_cons (ps_if (PW.pt (pw_and (pt_cmpR op_eq (pv 2) (pe_str) (by first | exact nomark _ | rfl)) (pw_and1 (pt_cmpR op_in_sign (pv 1) (C8.pe_gc rfl T.s_LETTERS) (by first | exact nomark _ | rfl)))))
       (pss_one (ps_ret (C8.pe_c c_read_again hr (by omega) rfl (pa_cons (pe_tup (pa_cons (pe_str) (pa_cons (pe_str) (pa_cons (pe_str) (pa_nil))))) (pa_cons (pe_lst (pa_cons (pe_tup (pa_cons (pe_str) (pa_cons (pe_str) (pa_nil)))) (pa_nil))) (pa_cons (pv 1) (pa_nil)))))))
       (pss_nil))
      (pss_cons (ps_if (PW.pt (pw_and (pt_cmpR op_eq (pv 2) (pe_str) (by first | exact nomark _ | rfl)) (pw_and1 (pt_cmpR op_in_sign (pv 1) (C8.pe_gc rfl T.s_LETTERS) (by first | exact nomark _ | rfl)))))
       (pss_one (ps_ret (C8.pe_c c_read_again hr (by omega) rfl (pa_cons (pe_tup (pa_cons (pe_str) (pa_cons (pe_str) (pa_cons (pe_str) (pa_nil))))) (pa_cons (pe_lst (pa_cons (pe_tup (pa_cons (pe_str) (pa_cons (pe_str) (pa_nil)))) (pa_nil))) (pa_cons (pv 1) (pa_nil)))))))
       (pss_nil))
      (pss_cons (ps_if (PW.pt (pw_or (PW.pt (pw_and (pt_cmpR op_eq (pv 2) (pe_str) (by first | exact nomark _ | rfl)) (pw_and1 (pt_cmpR op_in_sign (pv 1) (pe_str) (by first | exact nomark _ | rfl))))) (pw_or1 (PW.pt (pw_and (pt_cmpR op_eq (pv 2) (pe_str) (by first | exact nomark _ | rfl)) (pw_and1 (pt_cmpR op_eq (pv 1) (pe_str) (by first | exact nomark _ | rfl))))))))
       (pss_one (ps_ret (pe_tup (pa_cons (pe_tup (pa_cons (pe_str) (pa_cons (pe_str) (pa_cons (pe_op op_add_str (pv 2) (pv 1)) (pa_nil))))) (pa_cons (pe_lst pa_nil) (pa_nil))))))
       (pss_nil))
      (pss_cons (ps_if (PW.pt (pw_and (pt_cmpR op_eq (pv 2) (pe_str) (by first | exact nomark _ | rfl)) (pw_and1 (pt_cmpR op_eq (pv 1) (pe_str) (by first | exact nomark _ | rfl)))))
       (pss_one (ps_ret (pe_tup (pa_cons (pe_tup (pa_cons (pe_str) (pa_cons (pe_str) (pa_cons (pe_str) (pa_nil))))) (pa_cons (pe_lst (pa_cons (pe_tup (pa_cons (pe_str) (pa_cons (pe_str) (pa_nil)))) (pa_nil))) (pa_nil))))))
       (pss_nil))
      (pss_one (ps_ret (C8.pe_c c_settle_and_read hr (by omega) rfl (pa_cons (pv 0) (pa_cons (pv 1) (pa_nil))))))))))))), ?_⟩)
  · intro l d h
    obtain ⟨s, c, rfl, ok, hp, hb, hcalm, rfl⟩ := h
    rfl
  · intro l d h
    obtain ⟨s, c, rfl, ok, hp, hb, hcalm, rfl⟩ := h
    exact sd_seq (sd_set (ev_op (ev_var rfl) (ev_int) (rv_ixT rfl)))
      (sd_ifq (et_test (ev_op (ev_slTo (ev_var rfl) (eo_some (ev_int)) (by have := ok.pd; omega)) (ev_strS [38]) rv_eqT))
       (fun h0 => sd_seqR ((have hA : stText s c = stRef s c := (by first | ((try simp at h0); simp [stText, nxtR, h0]; (try rfl); done) | (simp only [Bool.eq_false_iff, ne_eq, Bool.and_eq_true, Bool.or_eq_true, Bool.not_eq_true', decide_eq_true_eq, List.cons.injEq, and_true, List.mem_cons, List.not_mem_nil, or_false, Classical.not_not, false_and, and_false, false_or, not_true_eq_false, not_false_eq_true, true_and, pt_bare, ↓reduceIte] at h0; simp only [stText, nxtR, Bool.eq_false_iff, ne_eq, Bool.and_eq_true, Bool.or_eq_true, Bool.not_eq_true', decide_eq_true_eq, List.cons.injEq, and_true, List.mem_cons, List.not_mem_nil, or_false, Classical.not_not, false_and, and_false, false_or, not_true_eq_false, not_false_eq_true, true_and, pt_bare, ↓reduceIte, h0]; (try rfl); done)); sd_is (sd_ret (ev_call (ea_cons (ev_var rfl) (ea_cons (ev_var rfl) (ea_nil))) ⟨s, c, rfl, ok, (by rw [hp]; rfl), (fun s1 e1 z => hb s1 e1 (hA.trans z)), (fun s1 e1 z => hcalm s1 e1 (hA.trans z)), rfl⟩)) (by rw [hA]))))
       (fun h0 => sd_nextq (sd_ifq (et_and (et_test (ev_op (ev_var rfl) (ev_strS []) rv_eqT)) (fun hq => et_test (ev_op (ev_var rfl) (ev_strS [60, 38]) rv_inC)))
       (fun h1 => sd_seqR (sd_is (sd_ret (ev_tup (ea_cons (ev_tup (ea_cons (ev_strS [116, 101, 120, 116]) (ea_cons (ev_strS []) (ea_cons (ev_var rfl) (ea_nil))))) (ea_cons (ev_lst (ea_nil)) (ea_nil))))) (by first | ((try simp at h0 h1); simp [stText, nxtR, h0, h1]; (try rfl); done) | (simp only [Bool.eq_false_iff, ne_eq, Bool.and_eq_true, Bool.or_eq_true, Bool.not_eq_true', decide_eq_true_eq, List.cons.injEq, and_true, List.mem_cons, List.not_mem_nil, or_false, Classical.not_not, false_and, and_false, false_or, not_true_eq_false, not_false_eq_true, true_and, pt_bare, ↓reduceIte] at h0 h1; simp only [stText, nxtR, Bool.eq_false_iff, ne_eq, Bool.and_eq_true, Bool.or_eq_true, Bool.not_eq_true', decide_eq_true_eq, List.cons.injEq, and_true, List.mem_cons, List.not_mem_nil, or_false, Classical.not_not, false_and, and_false, false_or, not_true_eq_false, not_false_eq_true, true_and, pt_bare, ↓reduceIte, h0, h1]; (try rfl); done))))
       (fun h1 => sd_nextq (sd_ifq (et_test (ev_op (ev_var rfl) (ev_strS []) rv_eqT))
       (fun h2 => sd_seqR (sd_is (sd_ret (ev_tup (ea_cons (ev_var rfl) (ea_cons (ev_lst (ea_cons (ev_tup (ea_cons (ev_strS [116, 101, 120, 116]) (ea_cons (ev_var rfl) (ea_nil)))) (ea_nil))) (ea_nil))))) (by first | ((try simp at h0 h1 h2); simp [stText, nxtR, h0, h1, h2]; (try rfl); done) | (simp only [Bool.eq_false_iff, ne_eq, Bool.and_eq_true, Bool.or_eq_true, Bool.not_eq_true', decide_eq_true_eq, List.cons.injEq, and_true, List.mem_cons, List.not_mem_nil, or_false, Classical.not_not, false_and, and_false, false_or, not_true_eq_false, not_false_eq_true, true_and, pt_bare, ↓reduceIte] at h0 h1 h2; simp only [stText, nxtR, Bool.eq_false_iff, ne_eq, Bool.and_eq_true, Bool.or_eq_true, Bool.not_eq_true', decide_eq_true_eq, List.cons.injEq, and_true, List.mem_cons, List.not_mem_nil, or_false, Classical.not_not, false_and, and_false, false_or, not_true_eq_false, not_false_eq_true, true_and, pt_bare, ↓reduceIte, h0, h1, h2]; (try rfl); done))))
       (fun h2 => sd_nextq (sd_ifq (et_and (et_test (ev_op (ev_var rfl) (ev_strS [60]) rv_eqT)) (fun hq => et_test (ev_op (ev_var rfl) (ev_str) rv_inC)))
       (fun h3 => sd_seqR ((have hA : stText s c = .again ⟨.tag, [], []⟩ [(.tag, .tx [])] := (by first | ((try simp at h0 h1 h2 h3); simp [stText, nxtR, h0, h1, h2, h3]; (try rfl); done) | (simp only [Bool.eq_false_iff, ne_eq, Bool.and_eq_true, Bool.or_eq_true, Bool.not_eq_true', decide_eq_true_eq, List.cons.injEq, and_true, List.mem_cons, List.not_mem_nil, or_false, Classical.not_not, false_and, and_false, false_or, not_true_eq_false, not_false_eq_true, true_and, pt_bare, ↓reduceIte] at h0 h1 h2 h3; simp only [stText, nxtR, Bool.eq_false_iff, ne_eq, Bool.and_eq_true, Bool.or_eq_true, Bool.not_eq_true', decide_eq_true_eq, List.cons.injEq, and_true, List.mem_cons, List.not_mem_nil, or_false, Classical.not_not, false_and, and_false, false_or, not_true_eq_false, not_false_eq_true, true_and, pt_bare, ↓reduceIte, h0, h1, h2, h3]; (try rfl); done)); sd_is (sd_ret (ev_call (ea_cons (ev_tup (ea_cons (ev_strS [116, 97, 103]) (ea_cons (ev_strS []) (ea_cons (ev_strS []) (ea_nil))))) (ea_cons (ev_lst (ea_cons (ev_tup (ea_cons (ev_strS [116, 97, 103]) (ea_cons (ev_strS []) (ea_nil)))) (ea_nil))) (ea_cons (ev_var rfl) (ea_nil)))) ⟨⟨.tag, [], []⟩, [(.tag, .tx [])], c, rfl, hb _ _ hA, ⟨by simp; try exact ok.el, by simp, .inr rfl⟩, hcalm _ _ hA, by simp, rfl⟩)) (by rw [hA]; rfl))))
       (fun h3 => sd_nextq (sd_ifq (et_and (et_test (ev_op (ev_var rfl) (ev_strS [60, 47]) rv_eqT)) (fun hq => et_test (ev_op (ev_var rfl) (ev_str) rv_inC)))
       (fun h4 => sd_seqR ((have hA : stText s c = .again ⟨.tag, [45], []⟩ [(.fin, .tx [])] := (by first | ((try simp at h0 h1 h2 h3 h4); simp [stText, nxtR, h0, h1, h2, h3, h4]; (try rfl); done) | (simp only [Bool.eq_false_iff, ne_eq, Bool.and_eq_true, Bool.or_eq_true, Bool.not_eq_true', decide_eq_true_eq, List.cons.injEq, and_true, List.mem_cons, List.not_mem_nil, or_false, Classical.not_not, false_and, and_false, false_or, not_true_eq_false, not_false_eq_true, true_and, pt_bare, ↓reduceIte] at h0 h1 h2 h3 h4; simp only [stText, nxtR, Bool.eq_false_iff, ne_eq, Bool.and_eq_true, Bool.or_eq_true, Bool.not_eq_true', decide_eq_true_eq, List.cons.injEq, and_true, List.mem_cons, List.not_mem_nil, or_false, Classical.not_not, false_and, and_false, false_or, not_true_eq_false, not_false_eq_true, true_and, pt_bare, ↓reduceIte, h0, h1, h2, h3, h4]; (try rfl); done)); sd_is (sd_ret (ev_call (ea_cons (ev_tup (ea_cons (ev_strS [116, 97, 103]) (ea_cons (ev_strS [45]) (ea_cons (ev_strS []) (ea_nil))))) (ea_cons (ev_lst (ea_cons (ev_tup (ea_cons (ev_strS [101, 110, 100]) (ea_cons (ev_strS []) (ea_nil)))) (ea_nil))) (ea_cons (ev_var rfl) (ea_nil)))) ⟨⟨.tag, [45], []⟩, [(.fin, .tx [])], c, rfl, hb _ _ hA, ⟨by simp; try exact ok.el, by simp, .inr rfl⟩, hcalm _ _ hA, by simp, rfl⟩)) (by rw [hA]; rfl))))
       (fun h4 => sd_nextq (sd_ifq (et_or (et_and (et_test (ev_op (ev_var rfl) (ev_strS [60]) rv_eqT)) (fun hq => et_test (ev_op (ev_var rfl) (ev_strS [47, 33]) rv_inC))) (fun hq => et_and (et_test (ev_op (ev_var rfl) (ev_strS [60, 33]) rv_eqT)) (fun hq => et_test (ev_op (ev_var rfl) (ev_strS [45]) rv_eqT))))
       (fun h5 => sd_seqR (sd_is (sd_ret (ev_tup (ea_cons (ev_tup (ea_cons (ev_strS [116, 101, 120, 116]) (ea_cons (ev_strS []) (ea_cons (ev_op (ev_var rfl) (ev_var rfl) (rv_catS (by simp; have := ok.pd; omega))) (ea_nil))))) (ea_cons (ev_lst (ea_nil)) (ea_nil))))) (by first | ((try simp at h0 h1 h2 h3 h4 h5); simp [stText, nxtR, h0, h1, h2, h3, h4, h5]; (try rfl); done) | (simp only [Bool.eq_false_iff, ne_eq, Bool.and_eq_true, Bool.or_eq_true, Bool.not_eq_true', decide_eq_true_eq, List.cons.injEq, and_true, List.mem_cons, List.not_mem_nil, or_false, Classical.not_not, false_and, and_false, false_or, not_true_eq_false, not_false_eq_true, true_and, pt_bare, ↓reduceIte] at h0 h1 h2 h3 h4 h5; simp only [stText, nxtR, Bool.eq_false_iff, ne_eq, Bool.and_eq_true, Bool.or_eq_true, Bool.not_eq_true', decide_eq_true_eq, List.cons.injEq, and_true, List.mem_cons, List.not_mem_nil, or_false, Classical.not_not, false_and, and_false, false_or, not_true_eq_false, not_false_eq_true, true_and, pt_bare, ↓reduceIte, h0, h1, h2, h3, h4, h5]; (try rfl); done))))
       (fun h5 => sd_nextq (sd_ifq (et_and (et_test (ev_op (ev_var rfl) (ev_strS [60, 33, 45]) rv_eqT)) (fun hq => et_test (ev_op (ev_var rfl) (ev_strS [45]) rv_eqT)))
       (fun h6 => sd_seqR (sd_is (sd_ret (ev_tup (ea_cons (ev_tup (ea_cons (ev_strS [99, 111, 109, 109, 101, 110, 116]) (ea_cons (ev_strS []) (ea_cons (ev_strS []) (ea_nil))))) (ea_cons (ev_lst (ea_cons (ev_tup (ea_cons (ev_strS [99, 111, 109, 109, 101, 110, 116]) (ea_cons (ev_strS []) (ea_nil)))) (ea_nil))) (ea_nil))))) (by first | ((try simp at h0 h1 h2 h3 h4 h5 h6); simp [stText, nxtR, h0, h1, h2, h3, h4, h5, h6]; (try rfl); done) | (simp only [Bool.eq_false_iff, ne_eq, Bool.and_eq_true, Bool.or_eq_true, Bool.not_eq_true', decide_eq_true_eq, List.cons.injEq, and_true, List.mem_cons, List.not_mem_nil, or_false, Classical.not_not, false_and, and_false, false_or, not_true_eq_false, not_false_eq_true, true_and, pt_bare, ↓reduceIte] at h0 h1 h2 h3 h4 h5 h6; simp only [stText, nxtR, Bool.eq_false_iff, ne_eq, Bool.and_eq_true, Bool.or_eq_true, Bool.not_eq_true', decide_eq_true_eq, List.cons.injEq, and_true, List.mem_cons, List.not_mem_nil, or_false, Classical.not_not, false_and, and_false, false_or, not_true_eq_false, not_false_eq_true, true_and, pt_bare, ↓reduceIte, h0, h1, h2, h3, h4, h5, h6]; (try rfl); done))))
       (fun h6 => sd_nextq ((have hA : stText s c = settA s := (by first | ((try simp at h0 h1 h2 h3 h4 h5 h6); simp [stText, nxtR, h0, h1, h2, h3, h4, h5, h6]; (try rfl); done) | (simp only [Bool.eq_false_iff, ne_eq, Bool.and_eq_true, Bool.or_eq_true, Bool.not_eq_true', decide_eq_true_eq, List.cons.injEq, and_true, List.mem_cons, List.not_mem_nil, or_false, Classical.not_not, false_and, and_false, false_or, not_true_eq_false, not_false_eq_true, true_and, pt_bare, ↓reduceIte] at h0 h1 h2 h3 h4 h5 h6; simp only [stText, nxtR, Bool.eq_false_iff, ne_eq, Bool.and_eq_true, Bool.or_eq_true, Bool.not_eq_true', decide_eq_true_eq, List.cons.injEq, and_true, List.mem_cons, List.not_mem_nil, or_false, Classical.not_not, false_and, and_false, false_or, not_true_eq_false, not_false_eq_true, true_and, pt_bare, ↓reduceIte, h0, h1, h2, h3, h4, h5, h6]; (try rfl); done)); sd_is (sd_ret (ev_call (ea_cons (ev_var rfl) (ea_cons (ev_var rfl) (ea_nil))) ⟨s, c, rfl, hb _ _ hA, ok, by rw [hp]; rfl, hcalm _ _ hA, rfl⟩)) (by rw [hA])))))))))))))))))

theorem sc_step_equals : FnScope ["state", "char"] ["state", "char"] (defScope s_step_equals) := ⟨rfl, rfl, rfl, by decide +kernel, rfl, by decide +kernel, by decide +kernel⟩
theorem cal_step_equals (T : Fx K w mg) (c_step_gap : CalR P w K mg base 1 "step_gap" (R_st stGap)) (c_read_again : CalR P w K mg base j "read_again" (R_ra b)) (hj : 1 ≤ j) : CalR P w K mg base (j + 1) "step_equals" (R_sx b (fun p => p = .equals) stEq) := by
  refine cal_of T.f_step_equals sc_step_equals (fun _ _ _ _ _ _ us hl => match us, hl with | [_, _], _ => rfl) ?_ (fun f cdv A outer s H E hr => ⟨_, pss_cons (ps_if (pt_cmpR op_eq (pv 1) (pe_str) (by first | exact nomark _ | rfl))
       (pss_one (ps_ret (pe_tup (pa_cons (pe_tup (pa_cons (pe_str) (pa_cons (pe_ix (ix_tupK (K := K) rfl) (pv 0) (pe_int) (fun _ _ => rfl)) (pa_cons (pe_str) (pa_nil))))) (pa_cons (pe_lst (pa_cons (pe_tup (pa_cons (pe_str) (pa_cons (pe_str) (pa_nil)))) (pa_nil))) (pa_nil))))))
       (pss_nil))
      (pss_cons (ps_if (pt_cmpR op_eq (pv 1) (pe_str) (by first | exact nomark _ | rfl))
       (pss_one (ps_ret (pe_tup (pa_cons (pe_tup (pa_cons (pe_str) (pa_cons (pe_ix (ix_tupK (K := K) rfl) (pv 0) (pe_int) (fun _ _ => rfl)) (pa_cons (pe_str) (pa_nil))))) (pa_cons (pe_lst (pa_cons (pe_tup (pa_cons (pe_str) (pa_cons (pe_str) (pa_nil)))) (pa_nil))) (pa_nil))))))
       (pss_nil))
      (pss_cons (ps_if (PW.pt (pw_or (pt_cmpR op_in_sign (pv 1) (C8.pe_gc rfl T.s_BLANKS) (by first | exact nomark _ | rfl)) (pw_or1 (pt_cmpR op_eq (pv 1) (pe_str) (by first | exact nomark _ | rfl)))))
       (pss_one (ps_ret (C8.pe_c c_step_gap hr (by omega) rfl (pa_cons (pe_tup (pa_cons (pe_str) (pa_cons (pe_ix (ix_tupK (K := K) rfl) (pv 0) (pe_int) (fun _ _ => rfl)) (pa_cons (pe_str) (pa_nil))))) (pa_cons (pv 1) (pa_nil))))))
       (pss_nil))
      (pss_one (ps_ret (C8.pe_c c_read_again hr (by omega) rfl (pa_cons (pe_tup (pa_cons (pe_str) (pa_cons (pe_ix (ix_tupK (K := K) rfl) (pv 0) (pe_int) (fun _ _ => rfl)) (pa_cons (pe_str) (pa_nil))))) (pa_cons (pe_lst (pa_cons (pe_tup (pa_cons (pe_str) (pa_cons (pe_str) (pa_nil)))) (pa_nil))) (pa_cons (pv 1) (pa_nil))))))))), ?_⟩)
  · intro l d h
    obtain ⟨s, c, rfl, ok, hp, hb, hcalm, rfl⟩ := h
    rfl
  · intro l d h
    obtain ⟨s, c, rfl, ok, hp, hb, hcalm, rfl⟩ := h
    exact sd_ifq (et_test (ev_op (ev_var rfl) (ev_strS [34]) rv_eqT))
       (fun h0 => sd_seqR (sd_is (sd_ret (ev_tup (ea_cons (ev_tup (ea_cons (ev_strS [100, 111, 117, 98, 108, 101]) (ea_cons (ev_op (ev_var rfl) (ev_int) (rv_ixT rfl)) (ea_cons (ev_strS []) (ea_nil))))) (ea_cons (ev_lst (ea_cons (ev_tup (ea_cons (ev_strS [118, 97, 108, 117, 101]) (ea_cons (ev_strS []) (ea_nil)))) (ea_nil))) (ea_nil))))) (by first | ((try simp at h0); simp [stEq, nxtR, h0]; (try rfl); done) | (simp only [Bool.eq_false_iff, ne_eq, Bool.and_eq_true, Bool.or_eq_true, Bool.not_eq_true', decide_eq_true_eq, List.cons.injEq, and_true, List.mem_cons, List.not_mem_nil, or_false, Classical.not_not, false_and, and_false, false_or, not_true_eq_false, not_false_eq_true, true_and, pt_bare, ↓reduceIte] at h0; simp only [stEq, nxtR, Bool.eq_false_iff, ne_eq, Bool.and_eq_true, Bool.or_eq_true, Bool.not_eq_true', decide_eq_true_eq, List.cons.injEq, and_true, List.mem_cons, List.not_mem_nil, or_false, Classical.not_not, false_and, and_false, false_or, not_true_eq_false, not_false_eq_true, true_and, pt_bare, ↓reduceIte, h0]; (try rfl); done))))
       (fun h0 => sd_nextq (sd_ifq (et_test (ev_op (ev_var rfl) (ev_strS [39]) rv_eqT))
       (fun h1 => sd_seqR (sd_is (sd_ret (ev_tup (ea_cons (ev_tup (ea_cons (ev_strS [115, 105, 110, 103, 108, 101]) (ea_cons (ev_op (ev_var rfl) (ev_int) (rv_ixT rfl)) (ea_cons (ev_strS []) (ea_nil))))) (ea_cons (ev_lst (ea_cons (ev_tup (ea_cons (ev_strS [118, 97, 108, 117, 101]) (ea_cons (ev_strS []) (ea_nil)))) (ea_nil))) (ea_nil))))) (by first | ((try simp at h0 h1); simp [stEq, nxtR, h0, h1]; (try rfl); done) | (simp only [Bool.eq_false_iff, ne_eq, Bool.and_eq_true, Bool.or_eq_true, Bool.not_eq_true', decide_eq_true_eq, List.cons.injEq, and_true, List.mem_cons, List.not_mem_nil, or_false, Classical.not_not, false_and, and_false, false_or, not_true_eq_false, not_false_eq_true, true_and, pt_bare, ↓reduceIte] at h0 h1; simp only [stEq, nxtR, Bool.eq_false_iff, ne_eq, Bool.and_eq_true, Bool.or_eq_true, Bool.not_eq_true', decide_eq_true_eq, List.cons.injEq, and_true, List.mem_cons, List.not_mem_nil, or_false, Classical.not_not, false_and, and_false, false_or, not_true_eq_false, not_false_eq_true, true_and, pt_bare, ↓reduceIte, h0, h1]; (try rfl); done))))
       (fun h1 => sd_nextq (sd_ifq (et_or (et_test (ev_op (ev_var rfl) (ev_str) rv_inC)) (fun hq => et_test (ev_op (ev_var rfl) (ev_strS [62]) rv_eqT)))
       (fun h2 => sd_seqR (sd_is (sd_ret (ev_call (ea_cons (ev_tup (ea_cons (ev_strS [103, 97, 112]) (ea_cons (ev_op (ev_var rfl) (ev_int) (rv_ixT rfl)) (ea_cons (ev_strS []) (ea_nil))))) (ea_cons (ev_var rfl) (ea_nil))) ⟨⟨.gap, _, []⟩, _, rfl, by have := ok.el; show s.el.length ≤ 1000000; omega, rfl⟩)) (by first | ((try simp at h0 h1 h2); simp [stEq, nxtR, h0, h1, h2]; (try rfl); done) | (simp only [Bool.eq_false_iff, ne_eq, Bool.and_eq_true, Bool.or_eq_true, Bool.not_eq_true', decide_eq_true_eq, List.cons.injEq, and_true, List.mem_cons, List.not_mem_nil, or_false, Classical.not_not, false_and, and_false, false_or, not_true_eq_false, not_false_eq_true, true_and, pt_bare, ↓reduceIte] at h0 h1 h2; simp only [stEq, nxtR, Bool.eq_false_iff, ne_eq, Bool.and_eq_true, Bool.or_eq_true, Bool.not_eq_true', decide_eq_true_eq, List.cons.injEq, and_true, List.mem_cons, List.not_mem_nil, or_false, Classical.not_not, false_and, and_false, false_or, not_true_eq_false, not_false_eq_true, true_and, pt_bare, ↓reduceIte, h0, h1, h2]; (try rfl); done))))
       (fun h2 => sd_nextq ((have hA : stEq s c = .again ⟨.bare, s.el, []⟩ [(.value, .tx [])] := (by first | ((try simp at h0 h1 h2); simp [stEq, nxtR, h0, h1, h2]; (try rfl); done) | (simp only [Bool.eq_false_iff, ne_eq, Bool.and_eq_true, Bool.or_eq_true, Bool.not_eq_true', decide_eq_true_eq, List.cons.injEq, and_true, List.mem_cons, List.not_mem_nil, or_false, Classical.not_not, false_and, and_false, false_or, not_true_eq_false, not_false_eq_true, true_and, pt_bare, ↓reduceIte] at h0 h1 h2; simp only [stEq, nxtR, Bool.eq_false_iff, ne_eq, Bool.and_eq_true, Bool.or_eq_true, Bool.not_eq_true', decide_eq_true_eq, List.cons.injEq, and_true, List.mem_cons, List.not_mem_nil, or_false, Classical.not_not, false_and, and_false, false_or, not_true_eq_false, not_false_eq_true, true_and, pt_bare, ↓reduceIte, h0, h1, h2]; (try rfl); done)); sd_is (sd_ret (ev_call (ea_cons (ev_tup (ea_cons (ev_strS [98, 97, 114, 101]) (ea_cons (ev_op (ev_var rfl) (ev_int) (rv_ixT rfl)) (ea_cons (ev_strS []) (ea_nil))))) (ea_cons (ev_lst (ea_cons (ev_tup (ea_cons (ev_strS [118, 97, 108, 117, 101]) (ea_cons (ev_strS []) (ea_nil)))) (ea_nil))) (ea_cons (ev_var rfl) (ea_nil)))) ⟨⟨.bare, s.el, []⟩, [(.value, .tx [])], c, rfl, hb _ _ hA, ⟨by simp; try exact ok.el, by simp, .inr rfl⟩, hcalm _ _ hA, by simp, rfl⟩)) (by rw [hA]; rfl))))))))

theorem sc_step_value : FnScope ["state", "char", "place", "element", "pending"] ["state", "char"] (defScope s_step_value) := ⟨rfl, rfl, rfl, by decide +kernel, rfl, by decide +kernel, by decide +kernel⟩
theorem cal_step_value (T : Fx K w mg) (c_step_reference : CalR P w K mg base j "step_reference" (R_sx b (fun p => p.kd.isSome = true) stRef)) (c_step_gap : CalR P w K mg base 1 "step_gap" (R_st stGap)) (hj : 1 ≤ j) : CalR P w K mg base (j + 1) "step_value" (R_sx b (fun p => p = .bare ∨ p = .double ∨ p = .single) stVal) := by
  refine cal_of T.f_step_value sc_step_value (fun _ _ _ _ _ _ us hl => match us, hl with | [_, _], _ => rfl) ?_ (fun f cdv A outer s H E hr => ⟨_, pss_cons (ps_asg (pv 0) (pg_tupK (K := K) rfl rfl (pgs_cons (pg_name (i := 2) sc_step_value.nd rfl (.inl rfl)) (pgs_cons (pg_name (i := 3) sc_step_value.nd rfl (.inl rfl)) (pgs_cons (pg_name (i := 4) sc_step_value.nd rfl (.inl rfl)) (pgs_nil))))))
      (pss_cons (ps_if (pt_cmpR op_ne (pv 4) (pe_str) (by first | exact nomark _ | rfl))
       (pss_one (ps_ret (C8.pe_c c_step_reference hr (by omega) rfl (pa_cons (pv 0) (pa_cons (pv 1) (pa_nil))))))
       (pss_nil))
      (pss_cons (ps_if (pt_cmpR op_eq (pv 1) (pe_str) (by first | exact nomark _ | rfl))
       (pss_one (ps_ret (pe_tup (pa_cons (pe_tup (pa_cons (pv 2) (pa_cons (pv 3) (pa_cons (pe_str) (pa_nil))))) (pa_cons (pe_lst pa_nil) (pa_nil))))))
       (pss_nil))
      (pss_cons (ps_if (PW.pt (pw_and (pt_cmpR op_eq (pv 2) (pe_str) (by first | exact nomark _ | rfl)) (pw_and1 (PW.pt (pw_or (pt_cmpR op_in_sign (pv 1) (C8.pe_gc rfl T.s_BLANKS) (by first | exact nomark _ | rfl)) (pw_or1 (pt_cmpR op_eq (pv 1) (pe_str) (by first | exact nomark _ | rfl))))))))
       (pss_one (ps_ret (C8.pe_c c_step_gap hr (by omega) rfl (pa_cons (pe_tup (pa_cons (pe_str) (pa_cons (pv 3) (pa_cons (pe_str) (pa_nil))))) (pa_cons (pv 1) (pa_nil))))))
       (pss_nil))
      (pss_cons (ps_if (PW.pt (pw_and (pt_cmpR op_ne (pv 2) (pe_str) (by first | exact nomark _ | rfl)) (pw_and1 (pt_cmpR op_eq (pv 1) (pe_ix (ix_D T.d_QUOTES) (C8.pe_gc rfl T.g_QUOTES) (pv 2) (fun _ _ => rfl)) (by first | exact nomark _ | rfl)))))
       (pss_one (ps_ret (pe_tup (pa_cons (pe_tup (pa_cons (pe_str) (pa_cons (pv 3) (pa_cons (pe_str) (pa_nil))))) (pa_cons (pe_lst pa_nil) (pa_nil))))))
       (pss_nil))
      (pss_one (ps_ret (pe_tup (pa_cons (pv 0) (pa_cons (pe_lst (pa_cons (pe_tup (pa_cons (pe_str) (pa_cons (pv 1) (pa_nil)))) (pa_nil))) (pa_nil)))))))))), ?_⟩)
  · intro l d h
    obtain ⟨s, c, rfl, ok, hp, hb, hcalm, rfl⟩ := h
    rfl
  · intro l d h
    obtain ⟨s, c, rfl, ok, hp, hb, hcalm, rfl⟩ := h
    exact sd_seq (sd_asg (ev_var rfl) tgt_tup3)
      (sd_ifq (et_test (ev_op (ev_var rfl) (ev_strS []) rv_neT))
       (fun h0 => sd_seqR ((have hA : stVal s c = stRef s c := (by first | ((try simp at h0); simp [stVal, nxtR, h0]; (try rfl); done) | (simp only [Bool.eq_false_iff, ne_eq, Bool.and_eq_true, Bool.or_eq_true, Bool.not_eq_true', decide_eq_true_eq, List.cons.injEq, and_true, List.mem_cons, List.not_mem_nil, or_false, Classical.not_not, false_and, and_false, false_or, not_true_eq_false, not_false_eq_true, true_and, pt_bare, ↓reduceIte] at h0; simp only [stVal, nxtR, Bool.eq_false_iff, ne_eq, Bool.and_eq_true, Bool.or_eq_true, Bool.not_eq_true', decide_eq_true_eq, List.cons.injEq, and_true, List.mem_cons, List.not_mem_nil, or_false, Classical.not_not, false_and, and_false, false_or, not_true_eq_false, not_false_eq_true, true_and, pt_bare, ↓reduceIte, h0]; (try rfl); done)); sd_is (sd_ret (ev_call (ea_cons (ev_var rfl) (ea_cons (ev_var rfl) (ea_nil))) ⟨s, c, rfl, ok, (by rcases hp with z | z | z <;> rw [z] <;> rfl), (fun s1 e1 z => hb s1 e1 (hA.trans z)), (fun s1 e1 z => hcalm s1 e1 (hA.trans z)), rfl⟩)) (by rw [hA]))))
       (fun h0 => sd_nextq (sd_ifq (et_test (ev_op (ev_var rfl) (ev_strS [38]) rv_eqT))
       (fun h1 => sd_seqR (sd_is (sd_ret (ev_tup (ea_cons (ev_tup (ea_cons (ev_var rfl) (ea_cons (ev_var rfl) (ea_cons (ev_strS [38]) (ea_nil))))) (ea_cons (ev_lst (ea_nil)) (ea_nil))))) (by first | ((try simp at h0 h1); simp [stVal, nxtR, h0, h1]; (try rfl); done) | (simp only [Bool.eq_false_iff, ne_eq, Bool.and_eq_true, Bool.or_eq_true, Bool.not_eq_true', decide_eq_true_eq, List.cons.injEq, and_true, List.mem_cons, List.not_mem_nil, or_false, Classical.not_not, false_and, and_false, false_or, not_true_eq_false, not_false_eq_true, true_and, pt_bare, ↓reduceIte] at h0 h1; simp only [stVal, nxtR, Bool.eq_false_iff, ne_eq, Bool.and_eq_true, Bool.or_eq_true, Bool.not_eq_true', decide_eq_true_eq, List.cons.injEq, and_true, List.mem_cons, List.not_mem_nil, or_false, Classical.not_not, false_and, and_false, false_or, not_true_eq_false, not_false_eq_true, true_and, pt_bare, ↓reduceIte, h0, h1]; (try rfl); done))))
       (fun h1 => sd_nextq (sd_ifq (et_and (et_test (ev_op (ev_var rfl) (ev_strS [98, 97, 114, 101]) rv_eqT)) (fun hq => et_or (et_test (ev_op (ev_var rfl) (ev_str) rv_inC)) (fun hq => et_test (ev_op (ev_var rfl) (ev_strS [62]) rv_eqT))))
       (fun h2 => sd_seqR (sd_is (sd_ret (ev_call (ea_cons (ev_tup (ea_cons (ev_strS [103, 97, 112]) (ea_cons (ev_var rfl) (ea_cons (ev_strS []) (ea_nil))))) (ea_cons (ev_var rfl) (ea_nil))) ⟨⟨.gap, _, []⟩, _, rfl, by have := ok.el; show s.el.length ≤ 1000000; omega, rfl⟩)) (by first | ((try simp at h0 h1 h2); simp [stVal, nxtR, h0, h1, h2]; (try rfl); done) | (simp only [Bool.eq_false_iff, ne_eq, Bool.and_eq_true, Bool.or_eq_true, Bool.not_eq_true', decide_eq_true_eq, List.cons.injEq, and_true, List.mem_cons, List.not_mem_nil, or_false, Classical.not_not, false_and, and_false, false_or, not_true_eq_false, not_false_eq_true, true_and, pt_bare, ↓reduceIte] at h0 h1 h2; simp only [stVal, nxtR, Bool.eq_false_iff, ne_eq, Bool.and_eq_true, Bool.or_eq_true, Bool.not_eq_true', decide_eq_true_eq, List.cons.injEq, and_true, List.mem_cons, List.not_mem_nil, or_false, Classical.not_not, false_and, and_false, false_or, not_true_eq_false, not_false_eq_true, true_and, pt_bare, ↓reduceIte, h0, h1, h2]; (try rfl); done))))
       (fun h2 => sd_nextq (sd_ifq (et_and (et_test (ev_op (ev_var rfl) (ev_strS [98, 97, 114, 101]) rv_neT)) (fun hq => et_test (ev_op (ev_var rfl) (ev_getD (ev_var rfl) (qu_get hp hq) (fun _ => .str _)) rv_eqT)))
       (fun h3 => sd_seqR (sd_is (sd_ret (ev_tup (ea_cons (ev_tup (ea_cons (ev_strS [103, 97, 112]) (ea_cons (ev_var rfl) (ea_cons (ev_strS []) (ea_nil))))) (ea_cons (ev_lst (ea_nil)) (ea_nil))))) (by simp only [Bool.eq_false_iff, ne_eq, Bool.and_eq_true, Bool.or_eq_true, Bool.not_eq_true', decide_eq_true_eq, List.cons.injEq, and_true, List.mem_cons, List.not_mem_nil, or_false, Classical.not_not, false_and, and_false, false_or, not_true_eq_false, not_false_eq_true, true_and, pt_bare, ↓reduceIte] at h0 h1 h2 h3; have hA : stVal s c = .go (⟨.gap, s.el, []⟩, []) := (by unfold stVal; rw [if_neg (by rw [h0]; simp), if_neg h1, if_neg h2, if_pos h3]); rw [hA]; rfl)))
       (fun h3 => sd_nextq (sd_is (sd_ret (ev_tup (ea_cons (ev_var rfl) (ea_cons (ev_lst (ea_cons (ev_tup (ea_cons (ev_strS [118, 97, 108, 117, 101]) (ea_cons (ev_var rfl) (ea_nil)))) (ea_nil))) (ea_nil))))) (by first | ((try simp at h0 h1 h2 h3); simp [stVal, nxtR, h0, h1, h2, h3]; (try rfl); done) | (simp only [Bool.eq_false_iff, ne_eq, Bool.and_eq_true, Bool.or_eq_true, Bool.not_eq_true', decide_eq_true_eq, List.cons.injEq, and_true, List.mem_cons, List.not_mem_nil, or_false, Classical.not_not, false_and, and_false, false_or, not_true_eq_false, not_false_eq_true, true_and, pt_bare, ↓reduceIte] at h0 h1 h2 h3; simp only [stVal, nxtR, Bool.eq_false_iff, ne_eq, Bool.and_eq_true, Bool.or_eq_true, Bool.not_eq_true', decide_eq_true_eq, List.cons.injEq, and_true, List.mem_cons, List.not_mem_nil, or_false, Classical.not_not, false_and, and_false, false_or, not_true_eq_false, not_false_eq_true, true_and, pt_bare, ↓reduceIte, h0, h1, h2, h3]; (try rfl); done)))))))))))

theorem sc_step_comment : FnScope ["state", "char", "pending"] ["state", "char"] (defScope s_step_comment) := ⟨rfl, rfl, rfl, by decide +kernel, rfl, by decide +kernel, by decide +kernel⟩
theorem cal_step_comment (T : Fx K w mg) (c_settle_and_read : CalR P w K mg base j "settle_and_read" (R_sar b)) (hj : 1 ≤ j) : CalR P w K mg base (j + 1) "step_comment" (R_sx b (fun p => p = .comment) stCom) := by
  refine cal_of T.f_step_comment sc_step_comment (fun _ _ _ _ _ _ us hl => match us, hl with | [_, _], _ => rfl) ?_ (fun f cdv A outer s H E hr => ⟨_, pss_cons (ps_set (i := 2) sc_step_comment.nd rfl (.inl rfl) (pe_ix (ix_tupK (K := K) rfl) (pv 0) (pe_int) (fun _ _ => rfl)))
      (pss_cons (ps_if (PW.pt (pw_and (pt_cmpR op_eq (pv 2) (pe_str) (by first | exact nomark _ | rfl)) (pw_and1 (pt_cmpR op_eq (pv 1) (pe_str) (by first | exact nomark _ | rfl)))))
       (pss_one (ps_ret (pe_tup (pa_cons (C8.pe_gc rfl T.g_START) (pa_cons (pe_lst (pa_cons (pe_tup (pa_cons (pe_str) (pa_cons (pe_str) (pa_nil)))) (pa_nil))) (pa_nil))))))
       (pss_nil))
      (pss_cons (ps_if (PW.pt (pw_and (pt_cmpR op_eq (pv 2) (pe_str) (by first | exact nomark _ | rfl)) (pw_and1 (pt_cmpR op_eq (pv 1) (pe_str) (by first | exact nomark _ | rfl)))))
       (pss_one (ps_ret (pe_tup (pa_cons (pv 0) (pa_cons (pe_lst (pa_cons (pe_tup (pa_cons (pe_str) (pa_cons (pe_str) (pa_nil)))) (pa_nil))) (pa_nil))))))
       (pss_nil))
      (pss_cons (ps_if (PW.pt (pw_and (pt_cmpR op_ne (pv 2) (pe_str) (by first | exact nomark _ | rfl)) (pw_and1 (pt_cmpR op_eq (pv 1) (pe_str) (by first | exact nomark _ | rfl)))))
       (pss_one (ps_ret (pe_tup (pa_cons (pe_tup (pa_cons (pe_str) (pa_cons (pe_str) (pa_cons (pe_op op_add_str (pv 2) (pe_str)) (pa_nil))))) (pa_cons (pe_lst pa_nil) (pa_nil))))))
       (pss_nil))
      (pss_cons (ps_if (pt_cmpR op_ne (pv 2) (pe_str) (by first | exact nomark _ | rfl))
       (pss_one (ps_ret (C8.pe_c c_settle_and_read hr (by omega) rfl (pa_cons (pv 0) (pa_cons (pv 1) (pa_nil))))))
       (pss_nil))
      (pss_one (ps_ret (pe_tup (pa_cons (pv 0) (pa_cons (pe_lst (pa_cons (pe_tup (pa_cons (pe_str) (pa_cons (pv 1) (pa_nil)))) (pa_nil))) (pa_nil)))))))))), ?_⟩)
  · intro l d h
    obtain ⟨s, c, rfl, ok, hp, hb, hcalm, rfl⟩ := h
    rfl
  · intro l d h
    obtain ⟨s, c, rfl, ok, hp, hb, hcalm, rfl⟩ := h
    exact sd_seq (sd_set (ev_op (ev_var rfl) (ev_int) (rv_ixT rfl)))
      (sd_ifq (et_and (et_test (ev_op (ev_var rfl) (ev_strS [45, 45]) rv_eqT)) (fun hq => et_test (ev_op (ev_var rfl) (ev_strS [62]) rv_eqT)))
       (fun h0 => sd_seqR (sd_is (sd_ret (ev_tup (ea_cons (ev_c T.v_START) (ea_cons (ev_lst (ea_cons (ev_tup (ea_cons (ev_strS [99, 108, 111, 115, 101]) (ea_cons (ev_strS []) (ea_nil)))) (ea_nil))) (ea_nil))))) (by first | ((try simp at h0); simp [stCom, nxtR, h0]; (try rfl); done) | (simp only [Bool.eq_false_iff, ne_eq, Bool.and_eq_true, Bool.or_eq_true, Bool.not_eq_true', decide_eq_true_eq, List.cons.injEq, and_true, List.mem_cons, List.not_mem_nil, or_false, Classical.not_not, false_and, and_false, false_or, not_true_eq_false, not_false_eq_true, true_and, pt_bare, ↓reduceIte] at h0; simp only [stCom, nxtR, Bool.eq_false_iff, ne_eq, Bool.and_eq_true, Bool.or_eq_true, Bool.not_eq_true', decide_eq_true_eq, List.cons.injEq, and_true, List.mem_cons, List.not_mem_nil, or_false, Classical.not_not, false_and, and_false, false_or, not_true_eq_false, not_false_eq_true, true_and, pt_bare, ↓reduceIte, h0]; (try rfl); done))))
       (fun h0 => sd_nextq (sd_ifq (et_and (et_test (ev_op (ev_var rfl) (ev_strS [45, 45]) rv_eqT)) (fun hq => et_test (ev_op (ev_var rfl) (ev_strS [45]) rv_eqT)))
       (fun h1 => sd_seqR (sd_is (sd_ret (ev_tup (ea_cons (ev_var rfl) (ea_cons (ev_lst (ea_cons (ev_tup (ea_cons (ev_strS [99, 111, 109, 109, 101, 110, 116]) (ea_cons (ev_strS [45]) (ea_nil)))) (ea_nil))) (ea_nil))))) (by first | ((try simp at h0 h1); simp [stCom, nxtR, h0, h1]; (try rfl); done) | (simp only [Bool.eq_false_iff, ne_eq, Bool.and_eq_true, Bool.or_eq_true, Bool.not_eq_true', decide_eq_true_eq, List.cons.injEq, and_true, List.mem_cons, List.not_mem_nil, or_false, Classical.not_not, false_and, and_false, false_or, not_true_eq_false, not_false_eq_true, true_and, pt_bare, ↓reduceIte] at h0 h1; simp only [stCom, nxtR, Bool.eq_false_iff, ne_eq, Bool.and_eq_true, Bool.or_eq_true, Bool.not_eq_true', decide_eq_true_eq, List.cons.injEq, and_true, List.mem_cons, List.not_mem_nil, or_false, Classical.not_not, false_and, and_false, false_or, not_true_eq_false, not_false_eq_true, true_and, pt_bare, ↓reduceIte, h0, h1]; (try rfl); done))))
       (fun h1 => sd_nextq (sd_ifq (et_and (et_test (ev_op (ev_var rfl) (ev_strS [45, 45]) rv_neT)) (fun hq => et_test (ev_op (ev_var rfl) (ev_strS [45]) rv_eqT)))
       (fun h2 => sd_seqR (sd_is (sd_ret (ev_tup (ea_cons (ev_tup (ea_cons (ev_strS [99, 111, 109, 109, 101, 110, 116]) (ea_cons (ev_strS []) (ea_cons (ev_op (ev_var rfl) (ev_strS [45]) (rv_catS (by simp; have := ok.pd; omega))) (ea_nil))))) (ea_cons (ev_lst (ea_nil)) (ea_nil))))) (by first | ((try simp at h0 h1 h2); simp [stCom, nxtR, h0, h1, h2]; (try rfl); done) | (simp only [Bool.eq_false_iff, ne_eq, Bool.and_eq_true, Bool.or_eq_true, Bool.not_eq_true', decide_eq_true_eq, List.cons.injEq, and_true, List.mem_cons, List.not_mem_nil, or_false, Classical.not_not, false_and, and_false, false_or, not_true_eq_false, not_false_eq_true, true_and, pt_bare, ↓reduceIte] at h0 h1 h2; simp only [stCom, nxtR, Bool.eq_false_iff, ne_eq, Bool.and_eq_true, Bool.or_eq_true, Bool.not_eq_true', decide_eq_true_eq, List.cons.injEq, and_true, List.mem_cons, List.not_mem_nil, or_false, Classical.not_not, false_and, and_false, false_or, not_true_eq_false, not_false_eq_true, true_and, pt_bare, ↓reduceIte, h0, h1, h2]; (try rfl); done))))
       (fun h2 => sd_nextq (sd_ifq (et_test (ev_op (ev_var rfl) (ev_strS []) rv_neT))
       (fun h3 => sd_seqR ((have hA : stCom s c = settA s := (by first | ((try simp at h0 h1 h2 h3); simp [stCom, nxtR, h0, h1, h2, h3]; (try rfl); done) | (simp only [Bool.eq_false_iff, ne_eq, Bool.and_eq_true, Bool.or_eq_true, Bool.not_eq_true', decide_eq_true_eq, List.cons.injEq, and_true, List.mem_cons, List.not_mem_nil, or_false, Classical.not_not, false_and, and_false, false_or, not_true_eq_false, not_false_eq_true, true_and, pt_bare, ↓reduceIte] at h0 h1 h2 h3; simp only [stCom, nxtR, Bool.eq_false_iff, ne_eq, Bool.and_eq_true, Bool.or_eq_true, Bool.not_eq_true', decide_eq_true_eq, List.cons.injEq, and_true, List.mem_cons, List.not_mem_nil, or_false, Classical.not_not, false_and, and_false, false_or, not_true_eq_false, not_false_eq_true, true_and, pt_bare, ↓reduceIte, h0, h1, h2, h3]; (try rfl); done)); sd_is (sd_ret (ev_call (ea_cons (ev_var rfl) (ea_cons (ev_var rfl) (ea_nil))) ⟨s, c, rfl, hb _ _ hA, ok, by rw [hp]; rfl, hcalm _ _ hA, rfl⟩)) (by rw [hA]))))
       (fun h3 => sd_nextq (sd_is (sd_ret (ev_tup (ea_cons (ev_var rfl) (ea_cons (ev_lst (ea_cons (ev_tup (ea_cons (ev_strS [99, 111, 109, 109, 101, 110, 116]) (ea_cons (ev_var rfl) (ea_nil)))) (ea_nil))) (ea_nil))))) (by first | ((try simp at h0 h1 h2 h3); simp [stCom, nxtR, h0, h1, h2, h3]; (try rfl); done) | (simp only [Bool.eq_false_iff, ne_eq, Bool.and_eq_true, Bool.or_eq_true, Bool.not_eq_true', decide_eq_true_eq, List.cons.injEq, and_true, List.mem_cons, List.not_mem_nil, or_false, Classical.not_not, false_and, and_false, false_or, not_true_eq_false, not_false_eq_true, true_and, pt_bare, ↓reduceIte] at h0 h1 h2 h3; simp only [stCom, nxtR, Bool.eq_false_iff, ne_eq, Bool.and_eq_true, Bool.or_eq_true, Bool.not_eq_true', decide_eq_true_eq, List.cons.injEq, and_true, List.mem_cons, List.not_mem_nil, or_false, Classical.not_not, false_and, and_false, false_or, not_true_eq_false, not_false_eq_true, true_and, pt_bare, ↓reduceIte, h0, h1, h2, h3]; (try rfl); done)))))))))))

theorem sc_step_raw : FnScope ["state", "char", "element", "pending", "goal", "events", "longer", "one"] ["state", "char"] (defScope s_step_raw) := ⟨rfl, rfl, rfl, by decide +kernel, rfl, by decide +kernel, by decide +kernel⟩
theorem cal_step_raw (T : Fx K w mg) (c_read_again : CalR P w K mg base j "read_again" (R_ra b)) (c_settle_and_read : CalR P w K mg base j "settle_and_read" (R_sar b)) (hj : 1 ≤ j) : CalR P w K mg base (j + 1) "step_raw" (R_sx b (fun p => p = .raw) stRaw) := by
  refine cal_of T.f_step_raw sc_step_raw (fun _ _ _ _ _ _ us hl => match us, hl with | [_, _], _ => rfl) ?_ (fun f cdv A outer s H E hr => ⟨_, pss_cons (ps_set (i := 2) sc_step_raw.nd rfl (.inl rfl) (pe_ix (ix_tupK (K := K) rfl) (pv 0) (pe_int) (fun _ _ => rfl)))
      (pss_cons (ps_set (i := 3) sc_step_raw.nd rfl (.inl rfl) (pe_ix (ix_tupK (K := K) rfl) (pv 0) (pe_int) (fun _ _ => rfl)))
      (pss_cons (ps_set (i := 4) sc_step_raw.nd rfl (.inl rfl) (pe_op op_add_str (pe_str) (pv 2)))
      (pss_cons (ps_if (PW.pt (pw_and (pt_cmpR op_eq (pv 3) (pv 4) (by first | exact nomark _ | rfl)) (pw_and1 (PW.pt (pw_or (pt_cmpR op_in_sign (pv 1) (C8.pe_gc rfl T.s_BLANKS) (by first | exact nomark _ | rfl)) (pw_or1 (pt_cmpR op_in_sign (pv 1) (pe_str) (by first | exact nomark _ | rfl))))))))
       (pss_cons (ps_set (i := 5) sc_step_raw.nd rfl (.inl rfl) (pe_op op_cat (pe_lst (pa_cons (pe_tup (pa_cons (pe_str) (pa_cons (pe_str) (pa_nil)))) (pa_nil))) (pe_lc rfl sc_step_raw.nd (pi_str (pv 2)) (blkOk_by (own := [("one", 7)]) (N := ["state", "char", "element", "pending", "goal", "events", "longer", "one"]) (sc := defScope s_step_raw) (by decide +kernel)) (fun _ _ _ _ _ => pg_name (i := 7) sc_step_raw.nd rfl (.inl rfl)) (fun _ _ _ _ _ => pts_nil) (fun _ _ _ _ _ => pe_tup (pa_cons (pe_str) (pa_cons (pv 7) (pa_nil)))))))
        (pss_one (ps_ret (C8.pe_c c_read_again hr (by omega) rfl (pa_cons (pe_tup (pa_cons (pe_str) (pa_cons (pe_str) (pa_cons (pe_str) (pa_nil))))) (pa_cons (pv 5) (pa_cons (pv 1) (pa_nil))))))))
       (pss_nil))
      (pss_cons (ps_set (i := 6) sc_step_raw.nd rfl (.inl rfl) (pe_op op_add_str (pv 3) (pv 1)))
      (pss_cons (ps_if (pt_cmpR op_eq (pe_slice sl_str (pv 4) (po_none) (po_some (pe_callB (call_lenK (K := K) rfl) (by rfl) T.b_len PySem.boot_len (pa_cons (pv 6) pa_nil)))) (pv 6) (by first | exact nomark _ | rfl))
       (pss_one (ps_ret (pe_tup (pa_cons (pe_tup (pa_cons (pe_str) (pa_cons (pv 2) (pa_cons (pv 6) (pa_nil))))) (pa_cons (pe_lst pa_nil) (pa_nil))))))
       (pss_nil))
      (pss_cons (ps_if (pt_cmpR op_ne (pv 3) (pe_str) (by first | exact nomark _ | rfl))
       (pss_one (ps_ret (C8.pe_c c_settle_and_read hr (by omega) rfl (pa_cons (pv 0) (pa_cons (pv 1) (pa_nil))))))
       (pss_nil))
      (pss_one (ps_ret (pe_tup (pa_cons (pv 0) (pa_cons (pe_lst (pa_cons (pe_tup (pa_cons (pe_str) (pa_cons (pv 1) (pa_nil)))) (pa_nil))) (pa_nil)))))))))))), ?_⟩)
  · intro l d h
    obtain ⟨s, c, rfl, ok, hp, hb, hcalm, rfl⟩ := h
    rfl
  · intro l d h
    obtain ⟨s, c, rfl, ok, hp, hb, hcalm, rfl⟩ := h
    exact sd_seq (sd_set (ev_op (ev_var rfl) (ev_int) (rv_ixT rfl)))
      (sd_seq (sd_set (ev_op (ev_var rfl) (ev_int) (rv_ixT rfl)))
      (sd_seq (sd_set (ev_op (ev_strS [60, 47]) (ev_var rfl) (rv_catS (by have := ok.el; have := ok.pd; simp; omega))))
      (sd_ifq (et_and (et_test (ev_op (ev_var rfl) (ev_var rfl) rv_eqT)) (fun hq => et_or (et_test (ev_op (ev_var rfl) (ev_str) rv_inC)) (fun hq => et_test (ev_op (ev_var rfl) (ev_strS [47, 62]) rv_inC))))
       (fun h0 => sd_seqR (have hA : stRaw s c = .again ⟨.gap, [45], []⟩ ((.fin, .tx []) :: evs .name s.el) := (by simp only [Bool.eq_false_iff, ne_eq, Bool.and_eq_true, Bool.or_eq_true, Bool.not_eq_true', decide_eq_true_eq, List.cons.injEq, and_true, List.mem_cons, List.not_mem_nil, or_false, Classical.not_not, false_and, and_false, false_or, not_true_eq_false, not_false_eq_true, true_and, pt_bare, ↓reduceIte] at h0; unfold stRaw; rw [if_pos]; simp only [Bool.eq_false_iff, ne_eq, Bool.and_eq_true, Bool.or_eq_true, Bool.not_eq_true', decide_eq_true_eq, List.cons.injEq, and_true, List.mem_cons, List.not_mem_nil, or_false, Classical.not_not, false_and, and_false, false_or, not_true_eq_false, not_false_eq_true, true_and, pt_bare, ↓reduceIte]; exact h0); sd_seq (sd_set (ev_op (ev_lst (ea_cons (ev_tup (ea_cons (ev_strS [101, 110, 100]) (ea_cons (ev_strS []) (ea_nil)))) (ea_nil))) (ev_lcS _ (ev_var rfl) (by have := ok.el; omega) (fun _ _ => ev_tup (ea_cons (ev_strS [110, 97, 109, 101]) (ea_cons (ev_var rfl) (ea_nil))))) (rv_cat (by have := ok.el; simp; omega))))         (sd_is (sd_ret (ev_call (ea_cons (ev_tup (ea_cons (ev_strS [103, 97, 112]) (ea_cons (ev_strS [45]) (ea_cons (ev_strS []) (ea_nil))))) (ea_cons (ev_var rfl) (ea_cons (ev_var rfl) (ea_nil)))) ⟨⟨.gap, [45], []⟩, (.fin, .tx []) :: evs .name s.el, c, (by unfold evsD; rw [List.map_cons, evs_d]; rfl), hb _ _ hA, ⟨by simp, by simp, .inr rfl⟩, hcalm _ _ hA, by have := ok.el; simp [evs_len]; omega, rfl⟩)) (by rw [hA]; rfl))))
       (fun h0 => sd_nextq (sd_seq (sd_set (ev_op (ev_var rfl) (ev_var rfl) (rv_catS (by have := ok.el; have := ok.pd; simp; omega))))
      (sd_ifq (et_test (ev_op (ev_slTo (ev_var rfl) (eo_some (ev_lenS (ev_var rfl) (by have := ok.pd; simp; omega))) (by have := ok.el; simp; omega)) (ev_var rfl) rv_eqT))
       (fun h1 => sd_seqR (sd_is (sd_ret (ev_tup (ea_cons (ev_tup (ea_cons (ev_strS [114, 97, 119]) (ea_cons (ev_var rfl) (ea_cons (ev_var rfl) (ea_nil))))) (ea_cons (ev_lst (ea_nil)) (ea_nil))))) (by simp only [Bool.eq_false_iff, ne_eq, Bool.and_eq_true, Bool.or_eq_true, Bool.not_eq_true', decide_eq_true_eq, List.cons.injEq, and_true, List.mem_cons, List.not_mem_nil, or_false, Classical.not_not, false_and, and_false, false_or, not_true_eq_false, not_false_eq_true, true_and, pt_bare, ↓reduceIte] at h0 h1; simp only [stRaw, goal, nxtR, Bool.eq_false_iff, ne_eq, Bool.and_eq_true, Bool.or_eq_true, Bool.not_eq_true', decide_eq_true_eq, List.cons.injEq, and_true, List.mem_cons, List.not_mem_nil, or_false, Classical.not_not, false_and, and_false, false_or, not_true_eq_false, not_false_eq_true, true_and, pt_bare, ↓reduceIte, h0, h1]; (try rfl))))
       (fun h1 => sd_nextq (sd_ifq (et_test (ev_op (ev_var rfl) (ev_strS []) rv_neT))
       (fun h2 => sd_seqR ((have hA : stRaw s c = settA s := (by simp only [Bool.eq_false_iff, ne_eq, Bool.and_eq_true, Bool.or_eq_true, Bool.not_eq_true', decide_eq_true_eq, List.cons.injEq, and_true, List.mem_cons, List.not_mem_nil, or_false, Classical.not_not, false_and, and_false, false_or, not_true_eq_false, not_false_eq_true, true_and, pt_bare, ↓reduceIte] at h0 h1 h2; simp only [stRaw, goal, nxtR, Bool.eq_false_iff, ne_eq, Bool.and_eq_true, Bool.or_eq_true, Bool.not_eq_true', decide_eq_true_eq, List.cons.injEq, and_true, List.mem_cons, List.not_mem_nil, or_false, Classical.not_not, false_and, and_false, false_or, not_true_eq_false, not_false_eq_true, true_and, pt_bare, ↓reduceIte, h0, h1, h2]; (try rfl)); sd_is (sd_ret (ev_call (ea_cons (ev_var rfl) (ea_cons (ev_var rfl) (ea_nil))) ⟨s, c, rfl, hb _ _ hA, ok, by rw [hp]; rfl, hcalm _ _ hA, rfl⟩)) (by rw [hA]))))
       (fun h2 => sd_nextq (sd_is (sd_ret (ev_tup (ea_cons (ev_var rfl) (ea_cons (ev_lst (ea_cons (ev_tup (ea_cons (ev_strS [114, 97, 119]) (ea_cons (ev_var rfl) (ea_nil)))) (ea_nil))) (ea_nil))))) (by simp only [Bool.eq_false_iff, ne_eq, Bool.and_eq_true, Bool.or_eq_true, Bool.not_eq_true', decide_eq_true_eq, List.cons.injEq, and_true, List.mem_cons, List.not_mem_nil, or_false, Classical.not_not, false_and, and_false, false_or, not_true_eq_false, not_false_eq_true, true_and, pt_bare, ↓reduceIte] at h0 h1 h2; have hA : stRaw s c = .go (s, [(.raw, .tx [c])]) := (by unfold stRaw; rw [if_neg (by simp only [goal, Bool.eq_false_iff, ne_eq, Bool.and_eq_true, Bool.or_eq_true, Bool.not_eq_true', decide_eq_true_eq, List.cons.injEq, and_true, List.mem_cons, List.not_mem_nil, or_false, Classical.not_not, false_and, and_false, false_or, not_true_eq_false, not_false_eq_true, true_and, pt_bare, ↓reduceIte]; exact h0), if_neg (by simp only [goal]; exact h1), if_neg (by rw [h2]; simp)]); rw [hA]; rfl)))))))))))

end
end K49

set_option Elab.async false
set_option linter.all false
set_option maxRecDepth 100000
/-! K49D: the step, the reader over pages and rows. -/
namespace K49
open PySem L2
def itD : Itm → PyData
  | .ch c => pS [c]
  | .mk n => .int n
def R_finish : List PyData → PyData → Prop := fun l d => ∃ s : Sta, l = [s.d] ∧ SOK s ∧ d = evsD (finE s)
def R_mark_step : List PyData → PyData → Prop := fun l d => ∃ (s : Sta) (n : Nat), l = [s.d, .int n] ∧ SOK s ∧ d = Res.d (mkStp s n)
def R_item_step : List PyData → PyData → Prop := fun l d => ∃ (s : Sta) (i : Itm), l = [s.d, itD i] ∧ SOK s ∧ d = Res.d (itStp s i)
def R_marked_events : List PyData → PyData → Prop := fun l d => ∃ r : List Itm, l = [.list (r.map itD)] ∧ r.length ≤ 400 ∧ d = evsD (evR start r)
def R_state_after : List PyData → PyData → Prop := fun l d => ∃ r : List Itm, l = [.list (r.map itD)] ∧ r.length ≤ 400 ∧ d = (runR start r).1.d
def R_events : List PyData → PyData → Prop := fun l d => ∃ t : Tx, l = [pS t] ∧ t.length ≤ 400 ∧ d = evsD (evR start (itms t))
theorem pt_equals (p : Pl) : (p.t = [101, 113, 117, 97, 108, 115]) = (p = .equals) := by cases p <;> simp [Pl.t]
theorem pt_tag (p : Pl) : (p.t = [116, 97, 103]) = (p = .tag) := by cases p <;> simp [Pl.t]
theorem pt_gap (p : Pl) : (p.t = [103, 97, 112]) = (p = .gap) := by cases p <;> simp [Pl.t]
theorem pt_text (p : Pl) : (p.t = [116, 101, 120, 116]) = (p = .text) := by cases p <;> simp [Pl.t]
theorem pt_raw (p : Pl) : (p.t = [114, 97, 119]) = (p = .raw) := by cases p <;> simp [Pl.t]
section
variable {P : Program} {w : World} {K : PySem.W.Frag} {mg : Str → Option Value} {base : Heap}
/-- environments of the readers' loops -/
def EfR (r : List Itm) (q : Res) : List (Option PyData) := [some (.list (r.map itD)), some q.1.d, none, none, none]
def EfP (t : Tx) (q : Res) : List (Option PyData) := [some (pS t), some q.1.d, none, none, none]
def EfS (r : List Itm) (q : Res) : List (Option PyData) := [some (.list (r.map itD)), some q.1.d, none]
theorem sd_setM2 {te : TE} {ds : List (Option PyData)} {i : Nat} {ls ms : List PyData} (h : EvM K te ds ls) (hn : ds[i]? = some none := by rfl) : SD K (tAsg te (gName i)) ds (some (i, ms)) (.nx ds (some (i, ls))) := fun σ G0 H0 G H D s q =>
  h σ G H s.gr.gh s.en _ fun a xs G' H' g h1 n1 n2 r => by
    have s1 := s.go g
    have hi := (List.getElem?_eq_some_iff.mp hn).1
    refine q _ G' H' g.g ⟨s1.gr, ?_, a, xs, ?_, h1, n1, s.gr.h.non_ n2, r⟩
    · have z := s1.en.off (some (.ref a)) i
      have e : ds.set i none = ds := by
        apply List.ext_getElem?
        intro k
        by_cases hk : i = k
        · subst hk; rw [List.getElem?_set_self hi, hn]
        · rw [List.getElem?_set_ne hk]
      rw [e] at z
      exact z
    · rw [List.getElem?_set_self (by rw [s1.en.len]; exact hi)]
theorem cal_mono {x : Str} {j k : Nat} {R : List PyData → PyData → Prop} (c : CalR P w K mg base j x R) (h : j ≤ k) : CalR P w K mg base k x R := by
  obtain ⟨f, fd, ps, ds, ok, hm, hk, hb, hd⟩ := c.ex
  exact ⟨f, fd, ps, ds, ok.mono h, hm, hk, hb, hd⟩

theorem sc_step : FnScope ["state", "char", "action"] ["state", "char"] (defScope s_step) := ⟨rfl, rfl, rfl, by decide +kernel, rfl, by decide +kernel, by decide +kernel⟩
theorem cal_step {j : Nat} {b : Bool} (T : Fx K w mg) (hj : 2 ≤ j) (c_text : CalR P w K mg base j "step_text" (R_sx b (fun p => p = .text) stText)) (c_tag : CalR P w K mg base j "step_tag" (R_st stTag)) (c_gap : CalR P w K mg base j "step_gap" (R_st stGap))
    (c_name : CalR P w K mg base j "step_name" (R_st stName)) (c_equals : CalR P w K mg base j "step_equals" (R_sx b (fun p => p = .equals) stEq)) (c_value : CalR P w K mg base j "step_value" (R_sx b (fun p => p = .bare ∨ p = .double ∨ p = .single) stVal))
    (c_comment : CalR P w K mg base j "step_comment" (R_sx b (fun p => p = .comment) stCom)) (c_raw : CalR P w K mg base j "step_raw" (R_sx b (fun p => p = .raw) stRaw)) : CalR P w K mg base (j + 1) "step" (R_step b) := by
  refine cal_of2 T.f_step sc_step (fun _ _ _ _ _ _ us hl => match us, hl with | [_, _], _ => rfl) ?_ (fun f cdv A outer s0 H E hr l d h => ?_)
  · intro l d h
    obtain ⟨s, c, rfl, _⟩ := h
    rfl
  obtain ⟨s, c, rfl, ok, hb, rfl⟩ := h
  have ps : ∀ {x : Str} {st : Stmt} {R : List PyData → PyData → Prop}, CalR P w K mg base j x R → Df K mg x st → (dR K STPL).lookup (SX.S s.p.t) = some (.ref (He.ga K x)) → R [s.d, pS [c]] (Res.d (stp s c)) →
      ∃ t, PSs (cxOf CX0 P w K mg base ["state", "char", "action"] "step" (defScope s_step) f cdv A outer s0 H E).nox (defBody s_step) t ∧ SD K t ([s.d, pS [c]].map some ++ List.replicate 1 none) none (.ret (Res.d (stp s c))) := fun {x st R} cal df hl hR => by
    obtain ⟨fd, ps, F, hk, hbn⟩ := cal_at cal df
    exact ⟨_, pss_cons (ps_set (i := 2) sc_step.nd rfl (.inl rfl) (pe_ix (ix_D T.d_STEPS) (C8.pe_gc rfl T.g_STEPS) (pe_ix (ix_tupK (K := K) rfl) (pv 0) pe_int (fun _ _ => rfl)) (fun _ _ => rfl)))
      (pss_one (ps_ret (pe_callL (i := 2) F hr rfl (.inl rfl) hk hbn .nil pass0 (pa_cons (pv 0) (pa_cons (pv 1) pa_nil))))),
      sd_pick (ev_op (ev_var rfl) ev_int (rv_ixT rfl)) hl (by exact Nat.le_of_ble_eq_true rfl) (ea_cons (ev_var rfl) (ea_cons (ev_var rfl) ea_nil)) hR⟩
  have hel : s.el.length ≤ 1000000 := by have := ok.el; omega
  have hR : ∀ {pl : Pl → Prop} {g : Sta → Nat → Nxt}, stp1 s c = g s c → pl s.p → R_sx b pl g [s.d, pS [c]] (Res.d (stp s c)) := fun {pl g} e hp =>
    ⟨s, c, rfl, ok, hp, fun s1 e1 z => hb s1 e1 (e.trans z), fun s1 e1 z => again_calm (e.trans z), by rw [stp_eq, e]⟩
  have hS : ∀ {g : Sta → Nat → Res}, stp1 s c = .go (g s c) → R_st g [s.d, pS [c]] (Res.d (stp s c)) := fun {g} e => ⟨s, c, rfl, hel, by rw [stp_go e]⟩
  cases hp : s.p with
  | text => exact ps c_text T.f_step_text (by rw [hp, dR_look]; rfl) (hR (by unfold stp1; rw [hp]) hp)
  | tag => exact ps c_tag T.f_step_tag (by rw [hp, dR_look]; rfl) (hS (by unfold stp1; rw [hp]))
  | gap => exact ps c_gap T.f_step_gap (by rw [hp, dR_look]; rfl) (hS (by unfold stp1; rw [hp]))
  | name => exact ps c_name T.f_step_name (by rw [hp, dR_look]; rfl) (hS (by unfold stp1; rw [hp]))
  | equals => exact ps c_equals T.f_step_equals (by rw [hp, dR_look]; rfl) (hR (by unfold stp1; rw [hp]) hp)
  | bare => exact ps c_value T.f_step_value (by rw [hp, dR_look]; rfl) (hR (by unfold stp1; rw [hp]) (.inl hp))
  | double => exact ps c_value T.f_step_value (by rw [hp, dR_look]; rfl) (hR (by unfold stp1; rw [hp]) (.inr (.inl hp)))
  | single => exact ps c_value T.f_step_value (by rw [hp, dR_look]; rfl) (hR (by unfold stp1; rw [hp]) (.inr (.inr hp)))
  | comment => exact ps c_comment T.f_step_comment (by rw [hp, dR_look]; rfl) (hR (by unfold stp1; rw [hp]) hp)
  | raw => exact ps c_raw T.f_step_raw (by rw [hp, dR_look]; rfl) (hR (by unfold stp1; rw [hp]) hp)
/-- the step, whatever it reads -/
theorem the_step (T : Fx K w mg) : CalR P w K mg base 15 "step" (R_step true) := by
  have c_num := cal_is_number (P := P) (base := base) T
  have c_chr := cal_character_of (P := P) (base := base) T
  have c_ref := cal_reference_text T c_num c_chr
  have leads : ∀ k : Nat, CalR P w K mg base (k + 1) "leads_on" (R_leads_on k) := fun k => by
    induction k with
    | zero => exact cal_mono (cal_imp (cal_none T.f_leads_on (ps := ["digits"]) (fun _ _ _ _ _ _ us hl => match us, hl with | [_], _ => rfl)) fun l d ⟨t, _, _, _, z, _⟩ => absurd z (by decide)) (Nat.zero_le _)
    | succ k ih => exact cal_leads_on T c_num c_chr ih
  have c_beg := cal_is_beginning T (leads 5)
  have c_set := cal_settled (P := P) (base := base) T
  have c_lon := cal_longer_name (P := P) (base := base) T
  have c_gap := cal_step_gap (P := P) (base := base) T
  have c_tag := cal_step_tag T c_lon c_gap
  have c_nam := cal_step_name T c_gap
  have c_pen := cal_pend (P := P) (base := base) T
  -- nothing is read again
  have ra0 : CalR P w K mg base 8 "read_again" (R_ra false) := cal_mono (cal_imp (cal_none T.f_read_again (ps := ["state", "events", "char"]) (fun _ _ _ _ _ _ us hl => match us, hl with | [_, _, _], _ => rfl)) fun l d ⟨_, _, _, _, z, _⟩ => nomatch z) (by decide)
  have sr0 : CalR P w K mg base 7 "settle_and_read" (R_sar false) := cal_mono (cal_imp (cal_none T.f_settle_and_read (ps := ["state", "char"]) (fun _ _ _ _ _ _ us hl => match us, hl with | [_, _], _ => rfl)) fun l d ⟨_, _, _, z, _⟩ => nomatch z) (by decide)
  have re0 := cal_step_reference T c_ref c_set c_beg sr0 (by decide)
  have sr0' := cal_mono sr0 (show 7 ≤ 8 by decide)
  have s0 := cal_step (j := 9) (b := false) T (by decide) (cal_step_text T re0 ra0 sr0' (by decide)) (cal_mono c_tag (by decide)) (cal_mono c_gap (by decide)) (cal_mono c_nam (by decide)) (cal_step_equals T c_gap ra0 (by decide)) (cal_step_value T re0 c_gap (by decide))
    (cal_step_comment T sr0' (by decide)) (cal_step_raw T ra0 sr0' (by decide))
  have ra1 := cal_read_again T s0
  have sr1 := cal_settle_and_read T c_set c_pen ra1 (by decide)
  have re1 := cal_step_reference T c_ref c_set c_beg sr1 (by decide)
  have ra1' := cal_mono ra1 (show 11 ≤ 13 by decide)
  have sr1' := cal_mono sr1 (show 12 ≤ 13 by decide)
  exact cal_step (j := 14) (b := true) T (by decide) (cal_step_text T re1 ra1' sr1' (by decide)) (cal_mono c_tag (by decide)) (cal_mono c_gap (by decide)) (cal_mono c_nam (by decide)) (cal_step_equals T c_gap ra1' (by decide)) (cal_step_value T re1 c_gap (by decide))
    (cal_step_comment T sr1' (by decide)) (cal_step_raw T ra1' sr1' (by decide))

theorem sc_finish : FnScope ["state", "events"] ["state"] (defScope s_finish) := ⟨rfl, rfl, rfl, by decide +kernel, rfl, by decide +kernel, by decide +kernel⟩
theorem cal_finish (T : Fx K w mg) (c_pending_events : CalM P w K mg base 1 "pending_events" M_pending_events)  : CalR P w K mg base 2 "finish" (R_finish) := by
  refine cal_of T.f_finish sc_finish (fun _ _ _ _ _ _ us hl => match us, hl with | [_], _ => rfl) ?_ (fun f cdv A outer s H E hr => ⟨_, pss_cons (ps_set (i := 1) sc_finish.nd rfl (.inl rfl) (pe_lst pa_nil))
      (pss_cons (ps_if (pt_cmpR (op_inD T.d_KINDS) (pe_ix (ix_tupK (K := K) rfl) (pv 0) (pe_int) (fun _ _ => rfl)) (C8.pe_gc rfl T.g_KINDS) (by first | exact nomark _ | rfl))
       (pss_one (ps_set (i := 1) sc_finish.nd rfl (.inl rfl) (C8.pe_c c_pending_events hr (by omega) rfl (pa_cons (pv 0) (pa_nil)))))
       (pss_nil))
      (pss_cons (ps_if (pt_cmpR (notIn_seqK (K := K) rfl) (pe_ix (ix_tupK (K := K) rfl) (pv 0) (pe_int) (fun _ _ => rfl)) (pe_tup (pa_cons (pe_str) (pa_cons (pe_str) (pa_nil)))) (by first | exact nomark _ | rfl))
       (pss_one (ps_expr (pe_bm PySem.F.plainAttrs_list PySem.F.slot_list_append PySem.F.type_list_append mt_append (pv 1) (pa_cons (pe_tup (pa_cons (pe_str) (pa_cons (pe_str) (pa_nil)))) pa_nil))))
       (pss_nil))
      (pss_one (ps_ret (pv 1))))), ?_⟩)
  · intro l d h
    obtain ⟨s, rfl, ok, rfl⟩ := h
    rfl
  · intro l d h
    obtain ⟨s, rfl, ok, rfl⟩ := h
    refine sd_seq sd_mine (sd_seq (es := [some s.d, none]) (acc' := some (1, (if s.p.kd.isSome then pendE s else []).map evD)) (sd_if (et_test (ev_inD (ev_op (ev_var rfl) (ev_int) (rv_ixT rfl)))) (fun h => ?_) (fun h => ?_)) (sd_ifq (et_test (ev_op (ev_op (ev_var rfl) (ev_int) (rv_ixT rfl)) (ev_tup (ea_cons (ev_strS [116, 101, 120, 116]) (ea_cons (ev_strS [114, 97, 119]) ea_nil))) (rv_niTs [[116, 101, 120, 116], [114, 97, 119]]))) (fun h => ?_) (fun h => ?_)))
    · rw [kd_in] at h
      rw [if_pos h]
      exact sd_setM2 (em_call (ea_cons (ev_var rfl) ea_nil) ⟨s, rfl, ok, rfl⟩)
    · rw [kd_in] at h
      rw [h]
      exact sd_next
    · refine sd_seq (sd_app (ev_tup (ea_cons (ev_strS [99, 108, 111, 115, 101]) (ea_cons (ev_strS []) ea_nil))) (by have := ok.pd; rw [List.length_map]; split <;> simp [pendE, evs_len] <;> omega)) (sd_seal (sd_is (sd_ret (ev_var rfl)) ?_))
      have e : ¬ (s.p = .text ∨ s.p = .raw) := by simp only [Bool.not_eq_true', decide_eq_false_iff_not, List.mem_cons, List.not_mem_nil, or_false, pt_text, pt_raw] at h; exact h
      unfold finE
      rw [if_neg e, evs_app]
      rfl
    · refine sd_nextq (sd_seal (sd_is (sd_ret (ev_var rfl)) ?_))
      have e : s.p = .text ∨ s.p = .raw := by simp only [Bool.not_eq_false', decide_eq_true_eq, List.mem_cons, List.not_mem_nil, or_false, pt_text, pt_raw] at h; exact h
      unfold finE
      rw [if_pos e, List.append_nil]
      rfl

theorem sc_mark_step : FnScope ["state", "number", "place", "element", "_"] ["state", "number"] (defScope s_mark_step) := ⟨rfl, rfl, rfl, by decide +kernel, rfl, by decide +kernel, by decide +kernel⟩
theorem cal_mark_step (T : Fx K w mg) (c_settled : CalR P w K mg base 1 "settled" R_settled) (c_pending_events : CalR P w K mg base 1 "pending_events" R_pend)  : CalR P w K mg base 2 "mark_step" (R_mark_step) := by
  refine cal_of T.f_mark_step sc_mark_step (fun _ _ _ _ _ _ us hl => match us, hl with | [_, _], _ => rfl) ?_ (fun f cdv A outer s H E hr => ⟨_, pss_cons (ps_asg (pv 0) (pg_tupK (K := K) rfl rfl (pgs_cons (pg_name (i := 2) sc_mark_step.nd rfl (.inl rfl)) (pgs_cons (pg_name (i := 3) sc_mark_step.nd rfl (.inl rfl)) (pgs_cons (pg_name (i := 4) sc_mark_step.nd rfl (.inl rfl)) (pgs_nil))))))
      (pss_cons (ps_if (pt_cmpR (op_inD T.d_KINDS) (pv 2) (C8.pe_gc rfl T.g_KINDS) (by first | exact nomark _ | rfl))
       (pss_one (ps_ret (pe_tup (pa_cons (C8.pe_c c_settled hr (by omega) rfl (pa_cons (pv 0) (pa_nil))) (pa_cons (pe_op op_cat (C8.pe_c c_pending_events hr (by omega) rfl (pa_cons (pv 0) (pa_nil))) (pe_lst (pa_cons (pe_tup (pa_cons (pe_ix (ix_D T.d_KINDS) (C8.pe_gc rfl T.g_KINDS) (pv 2) (fun _ _ => rfl)) (pa_cons (pv 1) (pa_nil)))) (pa_nil)))) (pa_nil))))))
       (pss_nil))
      (pss_cons (ps_if (pt_cmpR op_eq (pv 2) (pe_str) (by first | exact nomark _ | rfl))
       (pss_one (ps_ret (pe_tup (pa_cons (pe_tup (pa_cons (pe_str) (pa_cons (pv 3) (pa_cons (pe_str) (pa_nil))))) (pa_cons (pe_lst (pa_cons (pe_tup (pa_cons (pe_str) (pa_cons (pe_str) (pa_nil)))) (pa_cons (pe_tup (pa_cons (pe_str) (pa_cons (pv 1) (pa_nil)))) (pa_nil)))) (pa_nil))))))
       (pss_nil))
      (pss_cons (ps_if (pt_cmpR op_eq (pv 2) (pe_str) (by first | exact nomark _ | rfl))
       (pss_one (ps_ret (pe_tup (pa_cons (pe_tup (pa_cons (pe_str) (pa_cons (pe_str) (pa_cons (pe_str) (pa_nil))))) (pa_cons (pe_lst (pa_cons (pe_tup (pa_cons (pe_str) (pa_cons (pv 1) (pa_nil)))) (pa_nil))) (pa_nil))))))
       (pss_nil))
      (pss_cons (ps_if (pt_cmpR op_eq (pv 2) (pe_str) (by first | exact nomark _ | rfl))
       (pss_one (ps_ret (pe_tup (pa_cons (pe_tup (pa_cons (pe_str) (pa_cons (pv 3) (pa_cons (pe_str) (pa_nil))))) (pa_cons (pe_lst (pa_cons (pe_tup (pa_cons (pe_str) (pa_cons (pv 1) (pa_nil)))) (pa_nil))) (pa_nil))))))
       (pss_nil))
      (pss_one (ps_ret (pe_tup (pa_cons (pv 0) (pa_cons (pe_lst (pa_cons (pe_tup (pa_cons (pe_str) (pa_cons (pv 1) (pa_nil)))) (pa_nil))) (pa_nil)))))))))), ?_⟩)
  · intro l d h
    obtain ⟨s, n, rfl, ok, rfl⟩ := h
    rfl
  · intro l d h
    obtain ⟨s, n, rfl, ok, rfl⟩ := h
    exact sd_seq (sd_asg (ev_var rfl) tgt_tup3)
      (sd_ifq (et_test (ev_inD (ev_var rfl)))
       (fun h0 => sd_seqR (sd_is (sd_ret (ev_tup (ea_cons (ev_call (ea_cons (ev_var rfl) (ea_nil)) ⟨_, rfl, rfl⟩) (ea_cons (ev_op (ev_call (ea_cons (ev_var rfl) (ea_nil)) ⟨_, ⟨s, rfl, ok, rfl⟩, rfl⟩) (ev_lst (ea_cons (ev_tup (ea_cons (ev_getD (ev_var rfl) (kd_get (by rw [kd_in] at h0; exact h0)) (fun _ => .str _)) (ea_cons (ev_var rfl) (ea_nil)))) (ea_nil))) (rv_cat (by have := ok.pd; simp [pendE, evs_len]; omega))) (ea_nil))))) (by rw [kd_in] at h0; have hA : mkStp s n = (settl s, pendE s ++ [(s.p.kd!, .mk n)]) := (by unfold mkStp; rw [if_pos h0]); rw [hA]; unfold Res.d; rw [evs_app]; rfl)))
       (fun h0 => sd_nextq (sd_ifq (et_test (ev_op (ev_var rfl) (ev_strS [101, 113, 117, 97, 108, 115]) rv_eqT))
       (fun h1 => sd_seqR (sd_is (sd_ret (ev_tup (ea_cons (ev_tup (ea_cons (ev_strS [98, 97, 114, 101]) (ea_cons (ev_var rfl) (ea_cons (ev_strS []) (ea_nil))))) (ea_cons (ev_lst (ea_cons (ev_tup (ea_cons (ev_strS [118, 97, 108, 117, 101]) (ea_cons (ev_strS []) (ea_nil)))) (ea_cons (ev_tup (ea_cons (ev_strS [118, 97, 108, 117, 101]) (ea_cons (ev_var rfl) (ea_nil)))) (ea_nil)))) (ea_nil))))) (by rw [kd_in] at h0; simp only [Bool.eq_false_iff, ne_eq, decide_eq_true_eq, pt_equals, pt_tag, pt_gap] at h1; have hA : mkStp s n = (⟨.bare, s.el, []⟩, [(.value, .tx []), (.value, .mk n)]) := (by unfold mkStp; rw [if_neg (by rw [h0]; exact Bool.false_ne_true), if_pos h1]); rw [hA]; rfl)))
       (fun h1 => sd_nextq (sd_ifq (et_test (ev_op (ev_var rfl) (ev_strS [116, 97, 103]) rv_eqT))
       (fun h2 => sd_seqR (sd_is (sd_ret (ev_tup (ea_cons (ev_tup (ea_cons (ev_strS [116, 97, 103]) (ea_cons (ev_strS [45]) (ea_cons (ev_strS []) (ea_nil))))) (ea_cons (ev_lst (ea_cons (ev_tup (ea_cons (ev_strS [110, 97, 109, 101]) (ea_cons (ev_var rfl) (ea_nil)))) (ea_nil))) (ea_nil))))) (by rw [kd_in] at h0; simp only [Bool.eq_false_iff, ne_eq, decide_eq_true_eq, pt_equals, pt_tag, pt_gap] at h1 h2; have hA : mkStp s n = (⟨.tag, [45], []⟩, [(.name, .mk n)]) := (by unfold mkStp; rw [if_neg (by rw [h0]; exact Bool.false_ne_true), if_neg h1, if_pos h2]); rw [hA]; rfl)))
       (fun h2 => sd_nextq (sd_ifq (et_test (ev_op (ev_var rfl) (ev_strS [103, 97, 112]) rv_eqT))
       (fun h3 => sd_seqR (sd_is (sd_ret (ev_tup (ea_cons (ev_tup (ea_cons (ev_strS [110, 97, 109, 101]) (ea_cons (ev_var rfl) (ea_cons (ev_strS []) (ea_nil))))) (ea_cons (ev_lst (ea_cons (ev_tup (ea_cons (ev_strS [97, 116, 116, 114, 105, 98, 117, 116, 101]) (ea_cons (ev_var rfl) (ea_nil)))) (ea_nil))) (ea_nil))))) (by rw [kd_in] at h0; simp only [Bool.eq_false_iff, ne_eq, decide_eq_true_eq, pt_equals, pt_tag, pt_gap] at h1 h2 h3; have hA : mkStp s n = (⟨.name, s.el, []⟩, [(.attr, .mk n)]) := (by unfold mkStp; rw [if_neg (by rw [h0]; exact Bool.false_ne_true), if_neg h1, if_neg h2, if_pos h3]); rw [hA]; rfl)))
       (fun h3 => sd_nextq (sd_is (sd_ret (ev_tup (ea_cons (ev_var rfl) (ea_cons (ev_lst (ea_cons (ev_tup (ea_cons (ev_strS [110, 97, 109, 101]) (ea_cons (ev_var rfl) (ea_nil)))) (ea_nil))) (ea_nil))))) (by rw [kd_in] at h0; simp only [Bool.eq_false_iff, ne_eq, decide_eq_true_eq, pt_equals, pt_tag, pt_gap] at h1 h2 h3; have hA : mkStp s n = (s, [(.name, .mk n)]) := (by unfold mkStp; rw [if_neg (by rw [h0]; exact Bool.false_ne_true), if_neg h1, if_neg h2, if_neg h3]); rw [hA]; rfl))))))))))

theorem sc_item_step : FnScope ["state", "item"] ["state", "item"] (defScope s_item_step) := ⟨rfl, rfl, rfl, by decide +kernel, rfl, by decide +kernel, by decide +kernel⟩
theorem cal_item_step (T : Fx K w mg) (c_step : CalR P w K mg base 15 "step" (R_step true)) (c_mark_step : CalR P w K mg base 2 "mark_step" R_mark_step)  : CalR P w K mg base 16 "item_step" (R_item_step) := by
  refine cal_of T.f_item_step sc_item_step (fun _ _ _ _ _ _ us hl => match us, hl with | [_, _], _ => rfl) ?_ (fun f cdv A outer s H E hr => ⟨_, pss_cons (ps_if (pt_val (pe_callB (call_isiK' (K := K) rfl) (by rfl) T.b_isinstance (by decide +kernel) (pa_cons (pv 1) (pa_cons (pe_bltn (v := .ty "str") (by rfl) T.b_str (by decide +kernel) rfl) pa_nil))))
       (pss_one (ps_ret (C8.pe_c c_step hr (by omega) rfl (pa_cons (pv 0) (pa_cons (pv 1) (pa_nil))))))
       (pss_nil))
      (pss_one (ps_ret (C8.pe_c c_mark_step hr (by omega) rfl (pa_cons (pv 0) (pa_cons (pv 1) (pa_nil)))))), ?_⟩)
  · intro l d h
    obtain ⟨s, i, rfl, ok, rfl⟩ := h
    rfl
  · intro l d h
    obtain ⟨s, i, rfl, ok, rfl⟩ := h
    cases i with
    | ch c =>
      exact sd_ifq (et_B (ev_isStr (ev_var rfl) (b := true) (.inl ⟨_, rfl, rfl⟩)))
             (fun h0 => sd_seqR (sd_ret (ev_call (ea_cons (ev_var rfl) (ea_cons (ev_var rfl) (ea_nil))) ⟨s, c, rfl, ok, fun _ _ _ => rfl, rfl⟩)))
             (fun h0 => nomatch h0)
    | mk n =>
      exact sd_ifq (et_B (ev_isStr (ev_var rfl) (b := false) (.inr ⟨_, rfl, rfl⟩)))
             (fun h0 => nomatch h0)
             (fun h0 => sd_nextq (sd_ret (ev_call (ea_cons (ev_var rfl) (ea_cons (ev_var rfl) (ea_nil))) ⟨s, n, rfl, ok, rfl⟩)))

theorem sc_marked_events : FnScope ["row", "state", "events", "item", "more"] ["row"] (defScope s_marked_events) := ⟨rfl, rfl, rfl, by decide +kernel, rfl, by decide +kernel, by decide +kernel⟩
theorem cal_marked_events (T : Fx K w mg) (c_item_step : CalR P w K mg base 16 "item_step" R_item_step) (c_finish : CalR P w K mg base 2 "finish" R_finish)  : CalR P w K mg base 17 "marked_events" (R_marked_events) := by
  refine cal_of T.f_marked_events sc_marked_events (fun _ _ _ _ _ _ us hl => match us, hl with | [_], _ => rfl) ?_ (fun f cdv A outer s H E hr => ⟨_, pss_cons (ps_set (i := 1) sc_marked_events.nd rfl (.inl rfl) (C8.pe_gc rfl T.g_START))
      (pss_cons (ps_set (i := 2) sc_marked_events.nd rfl (.inl rfl) (pe_lst pa_nil))
      (pss_cons (ps_for PassesOwn.never rfl (pi_listK (K := K) rfl (pv 0)) (pg_name (i := 3) sc_marked_events.nd rfl (.inl rfl))
       (pss_cons (ps_asg (C8.pe_c c_item_step hr (by omega) rfl (pa_cons (pv 1) (pa_cons (pv 3) (pa_nil)))) (pg_tupK (K := K) rfl rfl (pgs_cons (pg_name (i := 1) sc_marked_events.nd rfl (.inl rfl)) (pgs_cons (pg_name (i := 4) sc_marked_events.nd rfl (.inl rfl)) (pgs_nil)))))
        (pss_one (ps_expr (pe_bm PySem.F.plainAttrs_list PySem.F.slot_list_extend PySem.F.type_list_extend mt_extend (pv 2) (pa_cons (pv 4) pa_nil))))))
      (pss_one (ps_ret (pe_op op_cat (pv 2) (C8.pe_c c_finish hr (by omega) rfl (pa_cons (pv 1) (pa_nil)))))))), ?_⟩)
  · intro l d h
    obtain ⟨r, rfl, hl, rfl⟩ := h
    rfl
  · intro l d h
    obtain ⟨r, rfl, hl, rfl⟩ := h
    have hE : ∀ j a, r[j]? = some a → runR start (r.take (j + 1)) = ((itStp (runR start (r.take j)).1 a).1, (runR start (r.take j)).2 ++ (itStp (runR start (r.take j)).1 a).2) := fun j a ha => by
      rw [List.take_add_one, ha]
      exact runR_snoc a (r.take j) start
    have hlen : ∀ j, (runR start (r.take j)).2.length ≤ 820400 := fun j => by
      have z := run_len (r.take j)
      rw [List.length_take] at z
      omega
    refine sd_seq (sd_set (ev_c T.v_START)) (sd_seq sd_mine (sd_seq (sd_foldq r itD (fun j => EfR r (runR start (r.take j))) (fun j a => (EfR r (runR start (r.take j))).set 3 (some (itD a))) (fun j => some (2, (runR start (r.take j)).2.map evD)) (src_lst (ev_var rfl)) (Wk.refl _) rfl (fun j i ls z => by cases z; decide) (fun j a => tgt_name) (fun j a ha => ?_)) ?_))
    · show SD K _ _ _ (.nx (EfR r (runR start (r.take (j + 1)))) (some (2, (runR start (r.take (j + 1))).2.map evD)))
      rw [hE j a ha, List.map_append]
      have ok := sok_run (r.take j)
      have z := itStp_len a ok
      have z2 := hlen j
      exact sd_seq (sd_asg (ev_call (ea_cons (ev_var rfl) (ea_cons (ev_var rfl) ea_nil)) ⟨_, a, rfl, ok, rfl⟩) tgt_tup2 (fun i ls z => by cases z; decide)) (sd_weak (sd_ext (ev_var rfl) (by rw [List.length_map, List.length_map]; omega)) (.same _ (.same _ (.same _ (.any _ (.any _ .nil))))))
    · rw [List.take_length]
      refine sd_seal (sd_is (sd_ret (ev_op (ev_var rfl) (ev_call (ea_cons (ev_var rfl) ea_nil) ⟨_, rfl, sok_run r, rfl⟩) (rv_cat (by
        have z := hlen r.length
        rw [List.take_length] at z
        have z2 := finE_len (sok_run r)
        rw [List.length_map, List.length_map]; omega)))) ?_)
      unfold evR
      rw [evs_app]

theorem sc_events : FnScope ["page", "state", "result", "char", "more"] ["page"] (defScope s_events) := ⟨rfl, rfl, rfl, by decide +kernel, rfl, by decide +kernel, by decide +kernel⟩
theorem cal_events (T : Fx K w mg) (c_step : CalR P w K mg base 15 "step" (R_step true)) (c_finish : CalR P w K mg base 2 "finish" R_finish)  : CalR P w K mg base 16 "events" (R_events) := by
  refine cal_of T.f_events sc_events (fun _ _ _ _ _ _ us hl => match us, hl with | [_], _ => rfl) ?_ (fun f cdv A outer s H E hr => ⟨_, pss_cons (ps_set (i := 1) sc_events.nd rfl (.inl rfl) (C8.pe_gc rfl T.g_START))
      (pss_cons (ps_set (i := 2) sc_events.nd rfl (.inl rfl) (pe_lst pa_nil))
      (pss_cons (ps_for PassesOwn.never rfl (pi_str (pv 0)) (pg_name (i := 3) sc_events.nd rfl (.inl rfl))
       (pss_cons (ps_asg (C8.pe_c c_step hr (by omega) rfl (pa_cons (pv 1) (pa_cons (pv 3) (pa_nil)))) (pg_tupK (K := K) rfl rfl (pgs_cons (pg_name (i := 1) sc_events.nd rfl (.inl rfl)) (pgs_cons (pg_name (i := 4) sc_events.nd rfl (.inl rfl)) (pgs_nil)))))
        (pss_one (ps_expr (pe_bm PySem.F.plainAttrs_list PySem.F.slot_list_extend PySem.F.type_list_extend mt_extend (pv 2) (pa_cons (pv 4) pa_nil))))))
      (pss_one (ps_ret (pe_op op_cat (pv 2) (C8.pe_c c_finish hr (by omega) rfl (pa_cons (pv 1) (pa_nil)))))))), ?_⟩)
  · intro l d h
    obtain ⟨t, rfl, hl, rfl⟩ := h
    rfl
  · intro l d h
    obtain ⟨t, rfl, hl, rfl⟩ := h
    have hE : ∀ j a, t[j]? = some a → runR start (itms (t.take (j + 1))) = ((stp (runR start (itms (t.take j))).1 a).1, (runR start (itms (t.take j))).2 ++ (stp (runR start (itms (t.take j))).1 a).2) := fun j a ha => by
      rw [List.take_add_one, ha]
      unfold itms
      rw [List.map_append]
      exact runR_snoc (.ch a) ((t.take j).map .ch) start
    have hlen : ∀ j, (runR start (itms (t.take j))).2.length ≤ 820400 := fun j => by
      have z := run_len (itms (t.take j))
      unfold itms at z ⊢
      rw [List.length_map, List.length_take] at z
      omega
    refine sd_seq (sd_set (ev_c T.v_START)) (sd_seq sd_mine (sd_seq (sd_foldq t (fun c => pS [c]) (fun j => EfP t (runR start (itms (t.take j)))) (fun j a => (EfP t (runR start (itms (t.take j)))).set 3 (some (pS [a]))) (fun j => some (2, (runR start (itms (t.take j))).2.map evD)) (src_str (ev_var rfl)) (Wk.refl _) rfl (fun j i ls z => by cases z; decide) (fun j a => tgt_name) (fun j a ha => ?_)) ?_))
    · show SD K _ _ _ (.nx (EfP t (runR start (itms (t.take (j + 1))))) (some (2, (runR start (itms (t.take (j + 1)))).2.map evD)))
      rw [hE j a ha, List.map_append]
      have ok := sok_run (itms (t.take j))
      have z := itStp_len (.ch a) ok
      have z2 := hlen j
      have z3 : (stp (runR start (itms (t.take j))).1 a).2.length ≤ 9 := z
      exact sd_seq (sd_asg (ev_call (ea_cons (ev_var rfl) (ea_cons (ev_var rfl) ea_nil)) ⟨_, a, rfl, ok, fun _ _ _ => rfl, rfl⟩) tgt_tup2 (fun i ls z => by cases z; decide)) (sd_weak (sd_ext (ev_var rfl) (by rw [List.length_map, List.length_map]; omega)) (.same _ (.same _ (.same _ (.any _ (.any _ .nil))))))
    · rw [List.take_length]
      refine sd_seal (sd_is (sd_ret (ev_op (ev_var rfl) (ev_call (ea_cons (ev_var rfl) ea_nil) ⟨_, rfl, sok_run _, rfl⟩) (rv_cat (by
        have z := hlen t.length
        rw [List.take_length] at z
        have z2 := finE_len (sok_run (itms t))
        rw [List.length_map, List.length_map]; omega)))) ?_)
      unfold evR
      rw [evs_app]

theorem sc_state_after : FnScope ["row", "state", "item"] ["row"] (defScope s_state_after) := ⟨rfl, rfl, rfl, by decide +kernel, rfl, by decide +kernel, by decide +kernel⟩
theorem cal_state_after (T : Fx K w mg) (c_item_step : CalR P w K mg base 16 "item_step" R_item_step)  : CalR P w K mg base 17 "state_after" (R_state_after) := by
  refine cal_of T.f_state_after sc_state_after (fun _ _ _ _ _ _ us hl => match us, hl with | [_], _ => rfl) ?_ (fun f cdv A outer s H E hr => ⟨_, pss_cons (ps_set (i := 1) sc_state_after.nd rfl (.inl rfl) (C8.pe_gc rfl T.g_START))
      (pss_cons (ps_for PassesOwn.never rfl (pi_listK (K := K) rfl (pv 0)) (pg_name (i := 2) sc_state_after.nd rfl (.inl rfl))
       (pss_one (ps_set (i := 1) sc_state_after.nd rfl (.inl rfl) (pe_ix (ix_tupK (K := K) rfl) (C8.pe_c c_item_step hr (by omega) rfl (pa_cons (pv 1) (pa_cons (pv 2) (pa_nil)))) (pe_int) (fun _ _ => rfl)))))
      (pss_one (ps_ret (pv 1)))), ?_⟩)
  · intro l d h
    obtain ⟨r, rfl, hl, rfl⟩ := h
    rfl
  · intro l d h
    obtain ⟨r, rfl, hl, rfl⟩ := h
    have hE : ∀ j a, r[j]? = some a → runR start (r.take (j + 1)) = ((itStp (runR start (r.take j)).1 a).1, (runR start (r.take j)).2 ++ (itStp (runR start (r.take j)).1 a).2) := fun j a ha => by
      rw [List.take_add_one, ha]
      exact runR_snoc a (r.take j) start
    refine sd_seq (sd_set (ev_c T.v_START)) (sd_seq (sd_foldq r itD (fun j => EfS r (runR start (r.take j))) (fun j a => (EfS r (runR start (r.take j))).set 2 (some (itD a))) (fun j => none) (src_lst (ev_var rfl)) (Wk.refl _) rfl (fun j i ls z => by cases z) (fun j a => tgt_name) (fun j a ha => ?_)) ?_)
    · show SD K _ _ _ (.nx (EfS r (runR start (r.take (j + 1)))) none)
      rw [hE j a ha]
      exact sd_weak (sd_set (ev_op (ev_call (ea_cons (ev_var rfl) (ea_cons (ev_var rfl) ea_nil)) ⟨_, a, rfl, sok_run (r.take j), rfl⟩) (ev_int) (rv_ixT rfl))) (.same _ (.same _ (.any _ .nil)))
    · rw [List.take_length]
      exact sd_ret (ev_var rfl)

end
end K49

set_option Elab.async false
set_option linter.all false
set_option maxRecDepth 100000
/-! K49E: pieces, joined texts, filled tokens. -/
namespace K49
open PySem L2
/-! ### data -/
def itsD (l : List Item) : PyData := .list (l.map Item.d)
def optL : Option (List Item) → PyData
  | none => .none
  | some l => itsD l
/-- an attribute as the builder keeps it -/
def pairD (q : List Item × Option (List Item)) : PyData := .list [itsD q.1, optL q.2]
def tokD (t : Tok) : PyData := .list [pS t.k.t, itsD t.its, .list (t.prs.map pairD)]
def mpD (q : List Item × Option (List Item)) : PyData := .tuple [itsD q.1, optL q.2]
def MTok.d (t : MTok) : PyData :=
  match t.ats with
  | some l => .tuple [pS t.k.t, itsD t.ps, .list (l.map mpD)]
  | none => .tuple [pS t.k.t, itsD t.ps]
def fpD (q : Tx × Option Tx) : PyData := .tuple [pS q.1, optD q.2]
def FTok.d (t : FTok) : PyData :=
  match t.ats with
  | some l => .tuple [pS t.k.t, pS t.s, .list (l.map fpD)]
  | none => .tuple [pS t.k.t, pS t.s]
theorem Item.d_inj {a b : Item} (h : a.d = b.d) : a = b := by
  cases a with
  | tx t =>
    cases b with
    | tx u =>
      have z : PyData.str (SX.S t) = PyData.str (SX.S u) := h
      injection z with z
      rw [SX.S_inj z]
    | mk n => exact nomatch (show PyData.str (SX.S t) = PyData.int n from h)
  | mk n =>
    cases b with
    | tx u => exact nomatch (show PyData.int n = PyData.str (SX.S u) from h)
    | mk m =>
      have z : PyData.int (n : Int) = PyData.int (m : Int) := h
      injection z with z
      have e : n = m := by omega
      rw [e]
theorem map_inj {α β : Type} {f : α → β} (hf : ∀ a b, f a = f b → a = b) : ∀ {l m : List α}, l.map f = m.map f → l = m
  | [], [], _ => rfl
  | [], _ :: _, h => by cases h
  | _ :: _, [], h => by cases h
  | a :: l, b :: m, h => by
    rw [List.map_cons, List.map_cons] at h
    injection h with h1 h2
    rw [hf a b h1, map_inj hf h2]
theorem itsD_inj {l m : List Item} (h : itsD l = itsD m) : l = m := by
  unfold itsD at h
  injection h with h
  exact map_inj (fun _ _ => Item.d_inj) h
theorem optL_inj {a b : Option (List Item)} (h : optL a = optL b) : a = b := by
  cases a with
  | none => cases b with
    | none => rfl
    | some l => exact nomatch (show PyData.none = PyData.list _ from h)
  | some m => cases b with
    | none => exact nomatch (show PyData.list _ = PyData.none from h)
    | some l => rw [itsD_inj (show itsD m = itsD l from h)]
theorem mpD_inj {p q : List Item × Option (List Item)} (h : mpD p = mpD q) : p = q := by
  unfold mpD at h
  injection h with h
  injection h with h1 h2
  injection h2 with h2 _
  exact Prod.ext (itsD_inj h1) (optL_inj h2)
theorem pairD_inj {p q : List Item × Option (List Item)} (h : pairD p = pairD q) : p = q := by
  unfold pairD at h
  injection h with h
  injection h with h1 h2
  injection h2 with h2 _
  exact Prod.ext (itsD_inj h1) (optL_inj h2)
/-! ### bounds -/
def It1 : Item → Prop
  | .tx t => t.length ≤ 1
  | .mk n => n = 0
def L1 (l : List Item) : Prop := (∀ i ∈ l, It1 i) ∧ l.length ≤ 9000
def P1 (q : List Item × Option (List Item)) : Prop := L1 q.1 ∧ ∀ l, q.2 = some l → L1 l
def T1 (t : Tok) : Prop := L1 t.its ∧ t.prs.length ≤ 9000 ∧ ∀ q ∈ t.prs, P1 q
def JOK (texts : List Tx) (l : List Item) : Prop := l.length ≤ 20000 ∧ (joinT texts l).length ≤ 1000000 ∧ ∀ n, Item.mk n ∈ l → n < texts.length
def JP (texts : List Tx) (q : List Item × Option (List Item)) : Prop := JOK texts q.1 ∧ ∀ l, q.2 = some l → JOK texts l
def JT (texts : List Tx) (t : MTok) : Prop := JOK texts t.ps ∧ ∀ l, t.ats = some l → l.length ≤ 20000 ∧ ∀ q ∈ l, JP texts q
def textsD (texts : List Tx) : PyData := .list (texts.map pS)
def R_pieces_of : List PyData → PyData → Prop := fun l d => ∃ m : List Item, l = [itsD m] ∧ L1 m ∧ d = itsD (piec m)
def R_marked_pair : List PyData → PyData → Prop := fun l d => ∃ q, l = [pairD q] ∧ P1 q ∧ d = mpD (mkPair q)
def R_joined : List PyData → PyData → Prop := fun l d => ∃ m texts, l = [itsD m, textsD texts] ∧ JOK texts m ∧ d = pS (joinT texts m)
def R_filled_pair : List PyData → PyData → Prop := fun l d => ∃ q texts, l = [mpD q, textsD texts] ∧ JP texts q ∧ d = fpD (flPair texts q)
def R_filled_tokens : List PyData → PyData → Prop := fun l d => ∃ ts texts, l = [.list (ts.map MTok.d), textsD texts] ∧ ts.length ≤ 20000 ∧ (∀ t ∈ ts, JT texts t) ∧ d = .list ((fills texts ts).map FTok.d)
/-! ### pieces by a fold -/
def pstep (p : List Item × Tx) : Item → List Item × Tx
  | .tx t => (p.1, p.2 ++ t)
  | .mk n => (p.1 ++ (if p.2 = [] then [] else [.tx p.2]) ++ [.mk n], [])
def pfin (p : List Item × Tx) : List Item := p.1 ++ (if p.2 = [] then [] else [.tx p.2])
theorem pfold (l : List Item) : ∀ (p : List Item) (s : Tx), pfin (l.foldl pstep (p, s)) = p ++ piecF s l := by
  induction l with
  | nil => intro p s; rfl
  | cons i l ih =>
    intro p s
    cases i with
    | tx t => exact ih p (s ++ t)
    | mk n =>
      show pfin (l.foldl pstep (p ++ (if s = [] then [] else [.tx s]) ++ [.mk n], [])) = _
      rw [ih]
      show _ = p ++ ((if s = [] then [] else [.tx s]) ++ (.mk n :: piecF [] l))
      simp [List.append_assoc]
theorem piec_fold (l : List Item) : piec l = pfin (l.foldl pstep ([], [])) := by rw [pfold]; rfl
theorem pstep_len {l : List Item} (h : ∀ i ∈ l, It1 i) : (l.foldl pstep ([], [])).1.length ≤ 2 * l.length ∧ (l.foldl pstep ([], [])).2.length ≤ l.length := by
  suffices g : ∀ (l : List Item) (p : List Item) (s : Tx), (∀ i ∈ l, It1 i) → (l.foldl pstep (p, s)).1.length ≤ p.length + 2 * l.length ∧ (l.foldl pstep (p, s)).2.length ≤ s.length + l.length by
    simpa using g l [] [] h
  intro l
  induction l with
  | nil => intro p s _; simp
  | cons i l ih =>
    intro p s hi
    have hi2 : ∀ i ∈ l, It1 i := fun j hj => hi j (List.mem_cons_of_mem _ hj)
    cases i with
    | tx t =>
      have ht : t.length ≤ 1 := hi (.tx t) List.mem_cons_self
      have z := ih p (s ++ t) hi2
      simp only [List.length_append] at z
      show (l.foldl pstep (p, s ++ t)).1.length ≤ _ ∧ (l.foldl pstep (p, s ++ t)).2.length ≤ _
      simp only [List.length_cons]
      omega
    | mk n =>
      have z := ih (p ++ (if s = [] then [] else [.tx s]) ++ [.mk n]) [] hi2
      have e : (if s = [] then [] else [Item.tx s]).length ≤ 1 := by split <;> simp
      simp only [List.length_append, List.length_cons, List.length_nil] at z
      show (l.foldl pstep (p ++ (if s = [] then [] else [.tx s]) ++ [.mk n], [])).1.length ≤ _ ∧ (l.foldl pstep (p ++ (if s = [] then [] else [.tx s]) ++ [.mk n], [])).2.length ≤ _
      simp only [List.length_cons]
      omega
theorem L1.take {l : List Item} (h : L1 l) (j : Nat) : L1 (l.take j) := ⟨fun i hi => h.1 i (List.mem_of_mem_take hi), by rw [List.length_take]; have := h.2; omega⟩
theorem foldl_take {α β : Type} (f : β → α → β) (b : β) {l : List α} {j : Nat} {a : α} (h : l[j]? = some a) : (l.take (j + 1)).foldl f b = f ((l.take j).foldl f b) a := by
  rw [List.take_add_one, h]
  simp [List.foldl_append]
section
variable {P : Program} {w : World} {K : PySem.W.Frag} {mg : Str → Option Value} {base : Heap}
def EpD (m : List Item) (p : List Item × Tx) : List (Option PyData) := [some (itsD m), none, some (pS p.2), none]
def ApD (p : List Item × Tx) : Option (Nat × List PyData) := some (1, p.1.map Item.d)
def EjD (m : List Item) (texts : List Tx) (t : Tx) : List (Option PyData) := [some (itsD m), some (textsD texts), some (pS t), none]
theorem joinT_take (texts : List Tx) {l : List Item} {j : Nat} {a : Item} (h : l[j]? = some a) : joinT texts (l.take (j + 1)) = joinT texts (l.take j) ++ itT texts a := by
  unfold joinT
  rw [List.take_add_one, h]
  simp
theorem joinT_le (texts : List Tx) (l : List Item) (j : Nat) : (joinT texts (l.take j)).length ≤ (joinT texts l).length := by
  have e : joinT texts l = joinT texts (l.take j) ++ joinT texts (l.drop j) := by
    unfold joinT
    rw [← List.flatten_append, ← List.map_append, List.take_append_drop]
  rw [e, List.length_append]; omega
theorem texts_at {texts : List Tx} {n : Nat} (h : n < texts.length) : atI (texts.map pS) (n : Int) = some (pS (texts.getD n [])) := by
  have e := atI_nat (xs := texts.map pS) (j := n) (v := pS (texts.getD n [])) (by rw [List.getElem?_map, List.getD_eq_getElem?_getD, List.getElem?_eq_getElem h]; rfl)
  exact e

theorem sc_pieces_of : FnScope ["items", "pieces", "string", "item"] ["items"] (defScope s_pieces_of) := ⟨rfl, rfl, rfl, by decide +kernel, rfl, by decide +kernel, by decide +kernel⟩
theorem cal_pieces_of (T : Fx K w mg)   : CalR P w K mg base 1 "pieces_of" (R_pieces_of) := by
  refine cal_of T.f_pieces_of sc_pieces_of (fun _ _ _ _ _ _ us hl => match us, hl with | [_], _ => rfl) ?_ (fun f cdv A outer s H E hr => ⟨_, pss_cons (ps_set (i := 1) sc_pieces_of.nd rfl (.inl rfl) (pe_lst pa_nil))
      (pss_cons (ps_set (i := 2) sc_pieces_of.nd rfl (.inl rfl) (pe_str))
      (pss_cons (ps_for PassesOwn.never rfl (pi_listK (K := K) rfl (pv 0)) (pg_name (i := 3) sc_pieces_of.nd rfl (.inl rfl))
       (pss_one (ps_if (pt_val (pe_callB (call_isiK' (K := K) rfl) (by rfl) T.b_isinstance (by decide +kernel) (pa_cons (pv 3) (pa_cons (pe_bltn (v := .ty "str") (by rfl) T.b_str (by decide +kernel) rfl) pa_nil))))
         (pss_one (ps_set (i := 2) sc_pieces_of.nd rfl (.inl rfl) (pe_op op_add_str (pv 2) (pv 3))))
         (pss_cons (ps_if (pt_cmpR op_ne (pv 2) (pe_str) (by first | exact nomark _ | rfl))
           (pss_one (ps_expr (pe_bm PySem.F.plainAttrs_list PySem.F.slot_list_append PySem.F.type_list_append mt_append (pv 1) (pa_cons (pv 2) pa_nil))))
           (pss_nil))
          (pss_cons (ps_expr (pe_bm PySem.F.plainAttrs_list PySem.F.slot_list_append PySem.F.type_list_append mt_append (pv 1) (pa_cons (pv 3) pa_nil)))
          (pss_one (ps_set (i := 2) sc_pieces_of.nd rfl (.inl rfl) (pe_str))))))))
      (pss_cons (ps_if (pt_cmpR op_ne (pv 2) (pe_str) (by first | exact nomark _ | rfl))
       (pss_one (ps_expr (pe_bm PySem.F.plainAttrs_list PySem.F.slot_list_append PySem.F.type_list_append mt_append (pv 1) (pa_cons (pv 2) pa_nil))))
       (pss_nil))
      (pss_one (ps_ret (pv 1)))))), ?_⟩)
  · intro l d h
    obtain ⟨m, rfl, hm, rfl⟩ := h
    rfl
  · intro l d h
    obtain ⟨m, rfl, hm, rfl⟩ := h
    have hlen : ∀ j, ((m.take j).foldl pstep ([], [])).1.length ≤ 18000 ∧ ((m.take j).foldl pstep ([], [])).2.length ≤ 9000 := fun j => by
      have z := pstep_len (hm.take j).1
      have z2 := (hm.take j).2
      omega
    refine sd_seq sd_mine (sd_seq (sd_set (ev_strS [])) (sd_seq (sd_foldq m Item.d (fun j => EpD m ((m.take j).foldl pstep ([], []))) (fun j a => (EpD m ((m.take j).foldl pstep ([], []))).set 3 (some a.d)) (fun j => ApD ((m.take j).foldl pstep ([], []))) (src_lst (ev_var rfl)) (Wk.refl _) rfl (fun j i ls z => by cases z; decide) (fun j a => tgt_name) (fun j a ha => ?_)) ?_))
    · show SD K _ _ _ (.nx (EpD m ((m.take (j + 1)).foldl pstep ([], []))) (ApD ((m.take (j + 1)).foldl pstep ([], []))))
      rw [foldl_take pstep ([], []) ha]
      have z := hlen j
      generalize (m.take j).foldl pstep ([], []) = p at z ⊢
      have h1 := hm.1 a (List.mem_of_getElem? ha)
      cases a with
      | tx t =>
        have ht : t.length ≤ 1 := h1
        exact sd_ifT (et_B (ev_isStr (ev_var rfl) (.inl ⟨_, rfl, rfl⟩))) (sd_weak (sd_set (ev_op (ev_var rfl) (ev_var rfl) (rv_catS (by omega))) (fun k ls z => by cases z; decide)) (.same _ (.same _ (.same _ (.any _ .nil)))))
      | mk n =>
        refine sd_ifF (et_B (ev_isStr (ev_var rfl) (.inr ⟨_, rfl, rfl⟩))) ?_
        have app : ∀ ls : List PyData, ls.length ≤ 100000 → SD K (tSeq (tDrop (tBM K "list" rAppend (tVar 1) (tCons (tVar 3) tNil))) (tAsg (tC (.str "")) (gName 2))) ((EpD m p).set 3 (some (Item.mk n).d)) (some (1, ls)) (.nx (EpD m ((p.1 ++ (if p.2 = [] then [] else [Item.tx p.2]) ++ [Item.mk n]), [])) (some (1, ls ++ [(Item.mk n).d]))) := fun ls hl =>
          sd_weak (sd_seq (sd_app (ev_var rfl) (by omega)) (sd_set (ev_strS []) (fun k ls z => by cases z; decide))) (.same _ (.same _ (.same _ (.any _ .nil))))
        refine sd_ifq (et_test (ev_op (ev_var rfl) (ev_strS []) rv_neT)) (fun h0 => ?_) (fun h0 => ?_)
        · have e0 : ¬ p.2 = [] := by simpa using h0
          refine sd_seq (sd_app (ev_var rfl) (by rw [List.length_map]; omega)) ?_
          have q := app (p.1.map Item.d ++ [pS p.2]) (by simp; omega)
          refine sd_is q ?_
          show Out.nx _ _ = Out.nx _ (some (1, (p.1 ++ (if p.2 = [] then [] else [Item.tx p.2]) ++ [Item.mk n]).map Item.d))
          rw [if_neg e0, List.map_append, List.map_append]
          rfl
        · have e0 : p.2 = [] := by simpa using h0
          refine sd_nextq ?_
          have q := app (p.1.map Item.d) (by simp; omega)
          refine sd_is q ?_
          show Out.nx _ _ = Out.nx _ (some (1, (p.1 ++ (if p.2 = [] then [] else [Item.tx p.2]) ++ [Item.mk n]).map Item.d))
          rw [if_pos e0, List.append_nil, List.map_append]
          rfl
    · rw [List.take_length, piec_fold]
      have z := hlen m.length
      rw [List.take_length] at z
      generalize m.foldl pstep ([], []) = p at z ⊢
      unfold pfin itsD
      refine sd_ifq (et_test (ev_op (ev_var rfl) (ev_strS []) rv_neT)) (fun h0 => ?_) (fun h0 => ?_)
      · have e0 : ¬ p.2 = [] := by simpa using h0
        refine sd_seq (sd_app (ev_var rfl) (by rw [List.length_map]; omega)) (sd_seal (sd_is (sd_ret (ev_var rfl)) ?_))
        rw [if_neg e0, List.map_append]
        rfl
      · have e0 : p.2 = [] := by simpa using h0
        refine sd_nextq (sd_seal (sd_is (sd_ret (ev_var rfl)) ?_))
        rw [if_pos e0, List.append_nil]

theorem sc_joined : FnScope ["pieces", "texts", "string", "piece"] ["pieces", "texts"] (defScope s_joined) := ⟨rfl, rfl, rfl, by decide +kernel, rfl, by decide +kernel, by decide +kernel⟩
theorem cal_joined (T : Fx K w mg)   : CalR P w K mg base 1 "joined" (R_joined) := by
  refine cal_of T.f_joined sc_joined (fun _ _ _ _ _ _ us hl => match us, hl with | [_, _], _ => rfl) ?_ (fun f cdv A outer s H E hr => ⟨_, pss_cons (ps_set (i := 2) sc_joined.nd rfl (.inl rfl) (pe_str))
      (pss_cons (ps_for PassesOwn.never rfl (pi_listK (K := K) rfl (pv 0)) (pg_name (i := 3) sc_joined.nd rfl (.inl rfl))
       (pss_one (ps_if (pt_val (pe_callB (call_isiK' (K := K) rfl) (by rfl) T.b_isinstance (by decide +kernel) (pa_cons (pv 3) (pa_cons (pe_bltn (v := .ty "str") (by rfl) T.b_str (by decide +kernel) rfl) pa_nil))))
         (pss_one (ps_set (i := 2) sc_joined.nd rfl (.inl rfl) (pe_op op_add_str (pv 2) (pv 3))))
         (pss_one (ps_set (i := 2) sc_joined.nd rfl (.inl rfl) (pe_op op_add_str (pv 2) (pe_ix (ix_listK (K := K) rfl) (pv 1) (pv 3) (fun _ _ => rfl))))))))
      (pss_one (ps_ret (pv 2)))), ?_⟩)
  · intro l d h
    obtain ⟨m, texts, rfl, hm, rfl⟩ := h
    rfl
  · intro l d h
    obtain ⟨m, texts, rfl, hm, rfl⟩ := h
    refine sd_seq (sd_set (ev_strS [])) (sd_seq (sd_foldq m Item.d (fun j => EjD m texts (joinT texts (m.take j))) (fun j a => (EjD m texts (joinT texts (m.take j))).set 3 (some a.d)) (fun j => none) (src_lst (ev_var rfl)) (Wk.refl _) rfl (fun j i ls z => by cases z) (fun j a => tgt_name) (fun j a ha => ?_)) ?_)
    · show SD K _ _ _ (.nx (EjD m texts (joinT texts (m.take (j + 1)))) none)
      have hl : (joinT texts (m.take j)).length + (itT texts a).length ≤ 1000000 := by
        have z := joinT_le texts m (j + 1)
        rw [joinT_take texts ha, List.length_append] at z
        have := hm.2.1
        omega
      rw [joinT_take texts ha]
      cases a with
      | tx t => exact sd_ifT (et_B (ev_isStr (ev_var rfl) (.inl ⟨_, rfl, rfl⟩))) (sd_weak (sd_set (ev_op (ev_var rfl) (ev_var rfl) (rv_catS (by have z : (itT texts (.tx t)).length = t.length := rfl; omega))) (fun k ls z => by cases z)) (.same _ (.same _ (.same _ (.any _ .nil)))))
      | mk n => exact sd_ifF (et_B (ev_isStr (ev_var rfl) (.inr ⟨_, rfl, rfl⟩))) (sd_weak (sd_set (ev_op (ev_var rfl) (ev_op (ev_var rfl) (ev_var rfl) (rv_ixL (texts_at (hm.2.2 n (List.mem_of_getElem? ha))))) (rv_catS (by have z : (itT texts (.mk n)).length = (texts.getD n []).length := rfl; omega))) (fun k ls z => by cases z)) (.same _ (.same _ (.same _ (.any _ .nil)))))
    · rw [List.take_length]
      exact sd_ret (ev_var rfl)

theorem sc_marked_pair : FnScope ["pair"] ["pair"] (defScope s_marked_pair) := ⟨rfl, rfl, rfl, by decide +kernel, rfl, by decide +kernel, by decide +kernel⟩
theorem cal_marked_pair (T : Fx K w mg) (c_pieces_of : CalR P w K mg base 1 "pieces_of" R_pieces_of)  : CalR P w K mg base 2 "marked_pair" (R_marked_pair) := by
  refine cal_of T.f_marked_pair sc_marked_pair (fun _ _ _ _ _ _ us hl => match us, hl with | [_], _ => rfl) ?_ (fun f cdv A outer s H E hr => ⟨_, pss_cons (ps_if (pt_cmpR op_isN (pe_ix (ix_listK (K := K) rfl) (pv 0) (pe_int) (fun _ _ => rfl)) (pe_non) (by first | exact nomark _ | rfl))
       (pss_one (ps_ret (pe_tup (pa_cons (C8.pe_c c_pieces_of hr (by omega) rfl (pa_cons (pe_ix (ix_listK (K := K) rfl) (pv 0) (pe_int) (fun _ _ => rfl)) (pa_nil))) (pa_cons (pe_non) (pa_nil))))))
       (pss_nil))
      (pss_one (ps_ret (pe_tup (pa_cons (C8.pe_c c_pieces_of hr (by omega) rfl (pa_cons (pe_ix (ix_listK (K := K) rfl) (pv 0) (pe_int) (fun _ _ => rfl)) (pa_nil))) (pa_cons (C8.pe_c c_pieces_of hr (by omega) rfl (pa_cons (pe_ix (ix_listK (K := K) rfl) (pv 0) (pe_int) (fun _ _ => rfl)) (pa_nil))) (pa_nil)))))), ?_⟩)
  · intro l d h
    obtain ⟨⟨n, v⟩, rfl, hq, rfl⟩ := h
    rfl
  · intro l d h
    obtain ⟨⟨n, v⟩, rfl, hq, rfl⟩ := h
    cases v with
    | none =>
      exact sd_ifq (et_test (ev_op (ev_op (ev_var rfl) (ev_int) (rv_ixL rfl)) (ev_non) (rv_isN (b := true) (.inr (.inr ⟨rfl, rfl⟩)))))
             (fun h0 => sd_seqR (sd_ret (ev_tup (ea_cons (ev_call (ea_cons (ev_op (ev_var rfl) (ev_int) (rv_ixL rfl)) (ea_nil)) ⟨_, rfl, hq.1, rfl⟩) (ea_cons (ev_non) (ea_nil))))))
             (fun h0 => nomatch h0)
    | some m =>
      exact sd_ifq (et_test (ev_op (ev_op (ev_var rfl) (ev_int) (rv_ixL rfl)) (ev_non) (rv_isN (b := false) (.inr (.inl ⟨_, rfl, rfl⟩)))))
             (fun h0 => nomatch h0)
             (fun h0 => sd_nextq (sd_ret (ev_tup (ea_cons (ev_call (ea_cons (ev_op (ev_var rfl) (ev_int) (rv_ixL rfl)) (ea_nil)) ⟨_, rfl, hq.1, rfl⟩) (ea_cons (ev_call (ea_cons (ev_op (ev_var rfl) (ev_int) (rv_ixL rfl)) (ea_nil)) ⟨_, rfl, hq.2 m rfl, rfl⟩) (ea_nil))))))

theorem sc_filled_pair : FnScope ["pair", "texts"] ["pair", "texts"] (defScope s_filled_pair) := ⟨rfl, rfl, rfl, by decide +kernel, rfl, by decide +kernel, by decide +kernel⟩
theorem cal_filled_pair (T : Fx K w mg) (c_joined : CalR P w K mg base 1 "joined" R_joined)  : CalR P w K mg base 2 "filled_pair" (R_filled_pair) := by
  refine cal_of T.f_filled_pair sc_filled_pair (fun _ _ _ _ _ _ us hl => match us, hl with | [_, _], _ => rfl) ?_ (fun f cdv A outer s H E hr => ⟨_, pss_cons (ps_if (pt_cmpR op_isN (pe_ix (ix_tupK (K := K) rfl) (pv 0) (pe_int) (fun _ _ => rfl)) (pe_non) (by first | exact nomark _ | rfl))
       (pss_one (ps_ret (pe_tup (pa_cons (C8.pe_c c_joined hr (by omega) rfl (pa_cons (pe_ix (ix_tupK (K := K) rfl) (pv 0) (pe_int) (fun _ _ => rfl)) (pa_cons (pv 1) (pa_nil)))) (pa_cons (pe_non) (pa_nil))))))
       (pss_nil))
      (pss_one (ps_ret (pe_tup (pa_cons (C8.pe_c c_joined hr (by omega) rfl (pa_cons (pe_ix (ix_tupK (K := K) rfl) (pv 0) (pe_int) (fun _ _ => rfl)) (pa_cons (pv 1) (pa_nil)))) (pa_cons (C8.pe_c c_joined hr (by omega) rfl (pa_cons (pe_ix (ix_tupK (K := K) rfl) (pv 0) (pe_int) (fun _ _ => rfl)) (pa_cons (pv 1) (pa_nil)))) (pa_nil)))))), ?_⟩)
  · intro l d h
    obtain ⟨⟨n, v⟩, texts, rfl, hq, rfl⟩ := h
    rfl
  · intro l d h
    obtain ⟨⟨n, v⟩, texts, rfl, hq, rfl⟩ := h
    cases v with
    | none =>
      exact sd_ifq (et_test (ev_op (ev_op (ev_var rfl) (ev_int) (rv_ixT rfl)) (ev_non) (rv_isN (b := true) (.inr (.inr ⟨rfl, rfl⟩)))))
             (fun h0 => sd_seqR (sd_ret (ev_tup (ea_cons (ev_call (ea_cons (ev_op (ev_var rfl) (ev_int) (rv_ixT rfl)) (ea_cons (ev_var rfl) (ea_nil))) ⟨_, _, rfl, hq.1, rfl⟩) (ea_cons (ev_non) (ea_nil))))))
             (fun h0 => nomatch h0)
    | some m =>
      exact sd_ifq (et_test (ev_op (ev_op (ev_var rfl) (ev_int) (rv_ixT rfl)) (ev_non) (rv_isN (b := false) (.inr (.inl ⟨_, rfl, rfl⟩)))))
             (fun h0 => nomatch h0)
             (fun h0 => sd_nextq (sd_ret (ev_tup (ea_cons (ev_call (ea_cons (ev_op (ev_var rfl) (ev_int) (rv_ixT rfl)) (ea_cons (ev_var rfl) (ea_nil))) ⟨_, _, rfl, hq.1, rfl⟩) (ea_cons (ev_call (ea_cons (ev_op (ev_var rfl) (ev_int) (rv_ixT rfl)) (ea_cons (ev_var rfl) (ea_nil))) ⟨_, _, rfl, hq.2 m rfl, rfl⟩) (ea_nil))))))

theorem fills_snoc (texts : List Tx) {ts : List MTok} {j : Nat} {t : MTok} (h : ts[j]? = some t) : fills texts (ts.take (j + 1)) = fills texts (ts.take j) ++ (if (flTok texts t).kept then [flTok texts t] else []) := by
  unfold fills
  rw [List.take_add_one, h]
  simp only [Option.toList_some, List.map_append, List.map_cons, List.map_nil, List.filter_append]
  congr 1
  by_cases q : (flTok texts t).kept = true
  · rw [if_pos q]; simp [q]
  · rw [if_neg q]; simp [q]
theorem fills_len (texts : List Tx) (ts : List MTok) : (fills texts ts).length ≤ ts.length := by
  unfold fills
  exact Nat.le_trans (List.length_filter_le _ _) (by rw [List.length_map]; exact Nat.le_refl _)
theorem kt_comment (k : Kd) : (k.t = [99, 111, 109, 109, 101, 110, 116]) = (k = .comment) := by cases k <;> simp [Kd.t]
theorem kt_tag (k : Kd) : (k.t = [116, 97, 103]) = (k = .tag) := by cases k <;> simp [Kd.t]
theorem kt_fin (k : Kd) : (k.t = [101, 110, 100]) = (k = .fin) := by cases k <;> simp [Kd.t]
def EfD (ts : List MTok) (texts : List Tx) : List (Option PyData) := [some (.list (ts.map MTok.d)), some (textsD texts), none, none, none, none]

theorem sc_filled_tokens : FnScope ["tokens", "texts", "result", "token", "string", "pair"] ["tokens", "texts"] (defScope s_filled_tokens) := ⟨rfl, rfl, rfl, by decide +kernel, rfl, by decide +kernel, by decide +kernel⟩
theorem cal_filled_tokens (T : Fx K w mg) (c_joined : CalR P w K mg base 1 "joined" R_joined) (c_filled_pair : CalR P w K mg base 2 "filled_pair" R_filled_pair)  : CalR P w K mg base 3 "filled_tokens" (R_filled_tokens) := by
  refine cal_of T.f_filled_tokens sc_filled_tokens (fun _ _ _ _ _ _ us hl => match us, hl with | [_, _], _ => rfl) ?_ (fun f cdv A outer s H E hr => ⟨_, pss_cons (ps_set (i := 2) sc_filled_tokens.nd rfl (.inl rfl) (pe_lst pa_nil))
      (pss_cons (ps_for PassesOwn.never rfl (pi_listK (K := K) rfl (pv 0)) (pg_name (i := 3) sc_filled_tokens.nd rfl (.inl rfl))
       (pss_cons (ps_set (i := 4) sc_filled_tokens.nd rfl (.inl rfl) (C8.pe_c c_joined hr (by omega) rfl (pa_cons (pe_ix (ix_tupK (K := K) rfl) (pv 3) (pe_int) (fun _ _ => rfl)) (pa_cons (pv 1) (pa_nil)))))
        (pss_one (ps_if (pt_cmpR op_eq (pe_callB (call_lenK (K := K) rfl) (by rfl) T.b_len PySem.boot_len (pa_cons (pv 3) pa_nil)) (pe_int) (by first | exact nomark _ | rfl))
         (pss_one (ps_expr (pe_bm PySem.F.plainAttrs_list PySem.F.slot_list_append PySem.F.type_list_append mt_append (pv 2) (pa_cons (pe_tup (pa_cons (pe_ix (ix_tupK (K := K) rfl) (pv 3) (pe_int) (fun _ _ => rfl)) (pa_cons (pv 4) (pa_cons (pe_lc rfl sc_filled_tokens.nd (pi_listK (K := K) rfl (pe_ix (ix_tupK (K := K) rfl) (pv 3) (pe_int) (fun _ _ => rfl))) (blkOk_by (own := [("pair", 5)]) (N := ["tokens", "texts", "result", "token", "string", "pair"]) (sc := defScope s_filled_tokens) (by decide +kernel)) (fun _ _ _ _ _ => pg_name (i := 5) sc_filled_tokens.nd rfl (.inl rfl)) (fun _ _ _ _ _ => pts_nil) (fun _ _ _ _ _ => C8.pe_c c_filled_pair hr (by omega) rfl (pa_cons (pv 5) (pa_cons (pv 1) (pa_nil))))) (pa_nil))))) pa_nil))))
         (pss_one (ps_if (PW.pt (pw_or (pt_cmpR op_ne (pv 4) (pe_str) (by first | exact nomark _ | rfl)) (pw_or1 (pt_cmpR op_eq (pe_ix (ix_tupK (K := K) rfl) (pv 3) (pe_int) (fun _ _ => rfl)) (pe_str) (by first | exact nomark _ | rfl)))))
           (pss_one (ps_expr (pe_bm PySem.F.plainAttrs_list PySem.F.slot_list_append PySem.F.type_list_append mt_append (pv 2) (pa_cons (pe_tup (pa_cons (pe_ix (ix_tupK (K := K) rfl) (pv 3) (pe_int) (fun _ _ => rfl)) (pa_cons (pv 4) (pa_nil)))) pa_nil))))
           (pss_nil)))))))
      (pss_one (ps_ret (pv 2)))), ?_⟩)
  · intro l d h
    obtain ⟨ts, texts, rfl, hl, hj, rfl⟩ := h
    rfl
  · intro l d h
    obtain ⟨ts, texts, rfl, hl, hj, rfl⟩ := h
    refine sd_seq sd_mine (sd_seq (sd_foldq ts MTok.d (fun j => EfD ts texts) (fun j a => (EfD ts texts).set 3 (some a.d)) (fun j => some (2, (fills texts (ts.take j)).map FTok.d)) (src_lst (ev_var rfl)) (Wk.refl _) rfl (fun j i ls z => by cases z; decide) (fun j a => tgt_name) (fun j a ha => ?_)) ?_)
    · have hlen : ((fills texts (ts.take j)).map FTok.d).length ≤ 20000 := by
        have z := fills_len texts (ts.take j)
        rw [List.length_take] at z
        rw [List.length_map]; omega
      have hJ := hj a (List.mem_of_getElem? ha)
      show SD K _ _ _ (.nx (EfD ts texts) (some (2, (fills texts (ts.take (j + 1))).map FTok.d)))
      rw [fills_snoc texts ha, List.map_append]
      obtain ⟨k, ps, ats⟩ := a
      cases ats with
      | none =>
        refine sd_seq (sd_set (ev_call (ea_cons (ev_op (ev_var rfl) (ev_int) (rv_ixT rfl)) (ea_cons (ev_var rfl) ea_nil)) ⟨ps, texts, rfl, hJ.1, rfl⟩) (fun k ls z => by cases z; decide)) (sd_ifF (et_test (ev_op (ev_lenT (ev_var rfl)) (ev_int) rv_eqI)) ?_)
        refine sd_if (et_or (et_test (ev_op (ev_var rfl) (ev_strS []) rv_neT)) (fun _ => et_test (ev_op (ev_op (ev_var rfl) (ev_int) (rv_ixT rfl)) (ev_strS [99, 111, 109, 109, 101, 110, 116]) rv_eqT))) (fun h0 => ?_) (fun h0 => ?_)
        · have hk : (flTok texts ⟨k, ps, none⟩).kept = true := by
            simp only [kt_comment, Bool.or_eq_true, Bool.not_eq_true', decide_eq_true_eq, decide_eq_false_iff_not] at h0
            simp only [FTok.kept, flTok, Option.map_none, Option.isSome_none, Bool.false_or, Bool.or_eq_true, decide_eq_true_eq]
            rcases h0 with z | z
            · exact .inl (decide_eq_true z)
            · exact .inr (decide_eq_true z)
          rw [if_pos hk]
          exact sd_weak (sd_app (ev_tup (ea_cons (ev_op (ev_var rfl) (ev_int) (rv_ixT rfl)) (ea_cons (ev_var rfl) ea_nil))) (by omega)) (.same _ (.same _ (.same _ (.any _ (.any _ (.same _ .nil))))))
        · have hk : ¬ (flTok texts ⟨k, ps, none⟩).kept = true := fun z => by
            simp only [FTok.kept, flTok, Option.map_none, Option.isSome_none, Bool.false_or, Bool.or_eq_true, decide_eq_true_eq] at z
            have w : (!decide (joinT texts ps = []) || decide (k.t = [99, 111, 109, 109, 101, 110, 116])) = true := by
              simp only [kt_comment, Bool.or_eq_true, Bool.not_eq_true', decide_eq_true_eq, decide_eq_false_iff_not]; exact z.imp of_decide_eq_true of_decide_eq_true
            rw [w] at h0; cases h0
          rw [if_neg hk, List.map_nil, List.append_nil]
          exact sd_weak sd_next (.same _ (.same _ (.same _ (.any _ (.any _ (.same _ .nil))))))
      | some l =>
        have hk : (flTok texts ⟨k, ps, some l⟩).kept = true := rfl
        have hJ2 := hJ.2 l rfl
        rw [if_pos hk]
        refine sd_seq (sd_set (ev_call (ea_cons (ev_op (ev_var rfl) (ev_int) (rv_ixT rfl)) (ea_cons (ev_var rfl) ea_nil)) ⟨ps, texts, rfl, hJ.1, rfl⟩) (fun k ls z => by cases z; decide)) (sd_ifT (et_test (ev_op (ev_lenT (ev_var rfl)) (ev_int) rv_eqI)) ?_)
        refine sd_weak (sd_app (d := (flTok texts ⟨k, ps, some l⟩).d) (ev_is (ev_tup (ea_cons (ev_op (ev_var rfl) (ev_int) (rv_ixT rfl)) (ea_cons (ev_var rfl) (ea_cons (ev_lcL l mpD (fun q => fpD (flPair texts q)) _ (ev_op (ev_var rfl) (ev_int) (rv_ixT rfl)) (by omega) (by decide) (fun a ha b hb e => by rw [mpD_inj e]) (fun q hq => ⟨tgt_name, ev_call (ea_cons (ev_var rfl) (ea_cons (ev_var rfl) ea_nil)) ⟨q, texts, rfl, hJ2.2 q hq, rfl⟩⟩)) ea_nil)))) ?_) (by omega)) (.same _ (.same _ (.same _ (.any _ (.any _ (.same _ .nil))))))
        show _ = PyData.tuple [_, _, PyData.list ((l.map (flPair texts)).map fpD)]
        rw [List.map_map]
        rfl
    · rw [List.take_length]
      exact sd_seal (sd_ret (ev_var rfl))

/-! ### marks -/
def tokItems (t : MTok) : List Item := t.ps ++ (t.ats.getD []).flatMap fun q => q.1 ++ q.2.getD []
def prsItems (l : List (List Item × Option (List Item))) : List Item := l.flatMap fun q => q.1 ++ q.2.getD []
def marks (l : List Item) : List Nat := l.filterMap fun i => match i with | .mk n => some n | .tx _ => none
def marksD (l : List Nat) : PyData := .list (l.map fun (n : Nat) => .int n)
def R_token_pieces : List PyData → PyData → Prop := fun l d => ∃ t : MTok, l = [t.d] ∧ (tokItems t).length ≤ 500000 ∧ d = itsD (tokItems t)
def R_marks_of : List PyData → PyData → Prop := fun l d => ∃ ts : List MTok, l = [.list (ts.map MTok.d)] ∧ (ts.flatMap tokItems).length ≤ 500000 ∧ d = marksD (marks (ts.flatMap tokItems))
def R_fill : List PyData → PyData → Prop := fun l d => ∃ ts texts, l = [.list (ts.map MTok.d), textsD texts] ∧ ts.length ≤ 20000 ∧ (∀ t ∈ ts, JT texts t) ∧ (ts.flatMap tokItems).length ≤ 500000 ∧ d = .list ((fills texts ts).map FTok.d)
theorem em_listL {te : TE} {ds : List (Option PyData)} {l : List PyData} (h : Ev K te ds (.list l)) : EvM K (tCB (fun xs H Q => ∃ p ys, xs = [.ref p] ∧ (SqL K H p ys ∨ SqT K H p ys) ∧ ∀ l, H l = none → Q (.ref l) (upd H l (.lst ys))) (tCons te tNil)) ds l := fun σ G H e en Q q =>
  h σ G H e en _ fun v G1 H1 g1 r1 => by
    cases r1 with
    | lst h1 h2 => exact ⟨_, _, rfl, .inl (.of (g1.gh _ _ h1)), fun p hp => q p _ G1 _ (g1.mut (g1.gh.non_ hp) (g1.h.non_ hp)) upd_same (g1.gh.non_ hp) (g1.h.non_ hp) h2⟩
theorem flat_take {α β : Type} (f : α → List β) {l : List α} {j : Nat} {a : α} (h : l[j]? = some a) : (l.take (j + 1)).flatMap f = (l.take j).flatMap f ++ f a := by
  rw [List.take_add_one, h]
  simp [List.flatMap_append]
theorem flat_le {α β : Type} (f : α → List β) (l : List α) (j : Nat) : ((l.take j).flatMap f).length ≤ (l.flatMap f).length := by
  have e : l.flatMap f = (l.take j).flatMap f ++ (l.drop j).flatMap f := by rw [← List.flatMap_append, List.take_append_drop]
  rw [e, List.length_append]; omega
theorem marks_app (a b : List Item) : marks (a ++ b) = marks a ++ marks b := by unfold marks; rw [List.filterMap_append]
theorem marks_len (a : List Item) : (marks a).length ≤ a.length := by unfold marks; exact List.length_filterMap_le _ _
def EtD (t : MTok) : List (Option PyData) := [some t.d, none, none, none]

theorem sc_token_pieces : FnScope ["token", "pieces", "name", "value"] ["token"] (defScope s_token_pieces) := ⟨rfl, rfl, rfl, by decide +kernel, rfl, by decide +kernel, by decide +kernel⟩
theorem cal_token_pieces (T : Fx K w mg)   : CalR P w K mg base 1 "token_pieces" (R_token_pieces) := by
  refine cal_of T.f_token_pieces sc_token_pieces (fun _ _ _ _ _ _ us hl => match us, hl with | [_], _ => rfl) ?_ (fun f cdv A outer s H E hr => ⟨_, pss_cons (ps_set (i := 1) sc_token_pieces.nd rfl (.inl rfl) (pe_callTy call_list_of (by rfl) T.b_list (by decide +kernel) (pa_cons (pe_ix (ix_tupK (K := K) rfl) (pv 0) (pe_int) (fun _ _ => rfl)) pa_nil)))
      (pss_cons (ps_if (pt_cmpR op_eq (pe_callB (call_lenK (K := K) rfl) (by rfl) T.b_len PySem.boot_len (pa_cons (pv 0) pa_nil)) (pe_int) (by first | exact nomark _ | rfl))
       (pss_one (ps_for PassesOwn.never rfl (pi_listK (K := K) rfl (pe_ix (ix_tupK (K := K) rfl) (pv 0) (pe_int) (fun _ _ => rfl))) (pg_tupK (K := K) rfl rfl (pgs_cons (pg_name (i := 2) sc_token_pieces.nd rfl (.inl rfl)) (pgs_cons (pg_name (i := 3) sc_token_pieces.nd rfl (.inl rfl)) (pgs_nil))))
         (pss_cons (ps_expr (pe_bm PySem.F.plainAttrs_list PySem.F.slot_list_extend PySem.F.type_list_extend mt_extend (pv 1) (pa_cons (pv 2) pa_nil)))
          (pss_one (ps_if (pt_cmpR op_notN (pv 3) (pe_non) (by first | exact nomark _ | rfl))
           (pss_one (ps_expr (pe_bm PySem.F.plainAttrs_list PySem.F.slot_list_extend PySem.F.type_list_extend mt_extend (pv 1) (pa_cons (pv 3) pa_nil))))
           (pss_nil))))))
       (pss_nil))
      (pss_one (ps_ret (pv 1)))), ?_⟩)
  · intro l d h
    obtain ⟨t, rfl, hl, rfl⟩ := h
    rfl
  · intro l d h
    obtain ⟨t, rfl, hl, rfl⟩ := h
    refine sd_seq (sd_setM (em_listL (l := t.ps.map Item.d) ?_)) ?_
    · obtain ⟨k, ps, ats⟩ := t
      cases ats <;> exact ev_op (ev_var rfl) (ev_int) (rv_ixT rfl)
    · obtain ⟨k, ps, ats⟩ := t
      cases ats with
      | none =>
        refine sd_seq (sd_ifF (et_test (ev_op (ev_lenT (ev_var rfl)) (ev_int) rv_eqI)) sd_next) (sd_seal (sd_is (sd_ret (ev_var rfl)) ?_))
        have e : tokItems ⟨k, ps, none⟩ = ps := by unfold tokItems; simp
        rw [e]; rfl
      | some l =>
        have e : tokItems ⟨k, ps, some l⟩ = ps ++ prsItems l := rfl
        have hl2 : ps.length + (prsItems l).length ≤ 500000 := by rw [e, List.length_append] at hl; exact hl
        refine sd_seq (sd_ifT (et_test (ev_op (ev_lenT (ev_var rfl)) (ev_int) rv_eqI)) (sd_foldq l mpD (fun j => EtD ⟨k, ps, some l⟩) (fun j q => ((EtD ⟨k, ps, some l⟩).set 2 (some (itsD q.1))).set 3 (some (optL q.2))) (fun j => some (1, (ps ++ prsItems (l.take j)).map Item.d)) (src_lst (ev_op (ev_var rfl) (ev_int) (rv_ixT rfl))) (Wk.refl _) (by simp [prsItems]) (fun j i ls z => by cases z; decide) (fun j a => tgt_tup2) (fun j q hq => ?_))) (sd_seal (sd_is (sd_ret (ev_var rfl)) ?_))
        · show SD K _ _ _ (.nx (EtD ⟨k, ps, some l⟩) (some (1, (ps ++ prsItems (l.take (j + 1))).map Item.d)))
          have ef : prsItems (l.take (j + 1)) = prsItems (l.take j) ++ (q.1 ++ q.2.getD []) := flat_take _ hq
          have hb := flat_le (fun q : List Item × Option (List Item) => q.1 ++ q.2.getD []) l (j + 1)
          have hb' : (prsItems (l.take (j + 1))).length ≤ (prsItems l).length := hb
          rw [ef] at hb' ⊢
          simp only [List.length_append] at hb'
          obtain ⟨n, v⟩ := q
          cases v with
          | none =>
            refine sd_seq (sd_ext (ev_var rfl) (by simp; simp at hb'; omega)) (sd_ifF (et_test (ev_op (ev_var rfl) (ev_non) (rv_notN (.inr (.inr ⟨rfl, rfl⟩))))) (sd_is (sd_weak sd_next (.same _ (.same _ (.any _ (.any _ .nil))))) ?_))
            simp [EtD]
          | some v =>
            refine sd_seq (sd_ext (ev_var rfl) (by simp; simp at hb'; omega)) (sd_ifT (et_test (ev_op (ev_var rfl) (ev_non) (rv_notN (.inr (.inl ⟨_, rfl, rfl⟩))))) (sd_is (sd_weak (sd_ext (ev_var rfl) (by simp; simp at hb'; omega)) (.same _ (.same _ (.any _ (.any _ .nil))))) ?_))
            simp [EtD]
        · rw [List.take_length, e]; rfl

theorem sc_marks_of : FnScope ["tokens", "marks", "token", "piece"] ["tokens"] (defScope s_marks_of) := ⟨rfl, rfl, rfl, by decide +kernel, rfl, by decide +kernel, by decide +kernel⟩
theorem cal_marks_of (T : Fx K w mg) (c_token_pieces : CalR P w K mg base 1 "token_pieces" R_token_pieces)  : CalR P w K mg base 2 "marks_of" (R_marks_of) := by
  refine cal_of T.f_marks_of sc_marks_of (fun _ _ _ _ _ _ us hl => match us, hl with | [_], _ => rfl) ?_ (fun f cdv A outer s H E hr => ⟨_, pss_cons (ps_set (i := 1) sc_marks_of.nd rfl (.inl rfl) (pe_lst pa_nil))
      (pss_cons (ps_for PassesOwn.never rfl (pi_listK (K := K) rfl (pv 0)) (pg_name (i := 2) sc_marks_of.nd rfl (.inl rfl))
       (pss_one (ps_for PassesOwn.never rfl (pi_listK (K := K) rfl (C8.pe_c c_token_pieces hr (by omega) rfl (pa_cons (pv 2) (pa_nil)))) (pg_name (i := 3) sc_marks_of.nd rfl (.inl rfl))
         (pss_one (ps_if (pt_not (pt_val (pe_callB (call_isiK' (K := K) rfl) (by rfl) T.b_isinstance (by decide +kernel) (pa_cons (pv 3) (pa_cons (pe_bltn (v := .ty "str") (by rfl) T.b_str (by decide +kernel) rfl) pa_nil)))))
           (pss_one (ps_expr (pe_bm PySem.F.plainAttrs_list PySem.F.slot_list_append PySem.F.type_list_append mt_append (pv 1) (pa_cons (pv 3) pa_nil))))
           (pss_nil))))))
      (pss_one (ps_ret (pv 1)))), ?_⟩)
  · intro l d h
    obtain ⟨ts, rfl, hl, rfl⟩ := h
    rfl
  · intro l d h
    obtain ⟨ts, rfl, hl, rfl⟩ := h
    refine sd_seq sd_mine (sd_seq (sd_foldq ts MTok.d (fun j => [some (.list (ts.map MTok.d)), none, none, none]) (fun j a => [some (.list (ts.map MTok.d)), none, some a.d, none]) (fun j => some (1, (marks ((ts.take j).flatMap tokItems)).map fun (n : Nat) => PyData.int n)) (src_lst (ev_var rfl)) (Wk.refl _) rfl (fun j i ls z => by cases z; decide) (fun j a => tgt_name) (fun j t ht => ?_)) ?_)
    · show SD K _ _ _ (.nx [some (.list (ts.map MTok.d)), none, none, none] (some (1, (marks ((ts.take (j + 1)).flatMap tokItems)).map fun (n : Nat) => PyData.int n)))
      have hb := flat_le tokItems ts (j + 1)
      rw [flat_take tokItems ht] at hb ⊢
      rw [List.length_append] at hb
      generalize (ts.take j).flatMap tokItems = pre at hb ⊢
      rw [marks_app, List.map_append]
      have hin := sd_foldq (K := K) (ds := [some (.list (ts.map MTok.d)), none, some t.d, none]) (acc := some (1, (marks pre).map fun (n : Nat) => PyData.int n)) (g := gName 3) (js := [3])
        (tb := tIfS (tNot (tB (tCB (rIsi K) (tCons (tVar 3) (tCons (tC (.ty "str")) tNil))))) (tDrop (tBM K "list" rAppend (tVar 1) (tCons (tVar 3) tNil))) tNext) (wi := iList K (tCall (spR K R_token_pieces) [] E0 (tCons (tVar 2) tNil)))
        (tokItems t) Item.d (fun j => [some (.list (ts.map MTok.d)), none, some t.d, none]) (fun j a => [some (.list (ts.map MTok.d)), none, some t.d, some a.d])
        (fun j => some (1, ((marks pre).map fun (n : Nat) => PyData.int n) ++ (marks ((tokItems t).take j)).map fun (n : Nat) => PyData.int n)) (src_lst (ev_call (ea_cons (ev_var rfl) ea_nil) ⟨t, rfl, by omega, rfl⟩)) (Wk.refl _) (by simp [marks]) (fun j i ls z => by cases z; decide) (fun j a => tgt_name) (fun i a ha => by
          have hm : marks ((tokItems t).take (i + 1)) = marks ((tokItems t).take i) ++ marks [a] := by rw [List.take_add_one, ha, marks_app]; rfl
          have hl1 := marks_len pre
          have hl2 := marks_len ((tokItems t).take i)
          rw [List.length_take] at hl2
          show SD K _ _ _ (.nx _ (some (1, ((marks pre).map fun (n : Nat) => PyData.int n) ++ (marks ((tokItems t).take (i + 1))).map fun (n : Nat) => PyData.int n)))
          rw [hm, List.map_append, ← List.append_assoc]
          cases a with
          | tx u =>
            have e0 : marks [Item.tx u] = [] := rfl
            rw [e0, List.map_nil, List.append_nil]
            exact sd_ifF (et_not (et_B (ev_isStr (b := true) (ev_var rfl) (.inl ⟨_, rfl, rfl⟩)))) (sd_weak sd_next (.same _ (.same _ (.same _ (.any _ .nil)))))
          | mk n =>
            have e0 : marks [Item.mk n] = [n] := rfl
            rw [e0]
            exact sd_ifT (et_not (et_B (ev_isStr (b := false) (ev_var rfl) (.inr ⟨_, rfl, rfl⟩)))) (sd_weak (sd_app (ev_var rfl) (by simp; omega)) (.same _ (.same _ (.same _ (.any _ .nil))))))
      rw [List.take_length] at hin
      exact sd_weak hin (.same _ (.same _ (.any _ (.same _ .nil))))
    · rw [List.take_length]
      exact sd_seal (sd_ret (ev_var rfl))

theorem sc_fill : FnScope ["tokens", "texts", "mark"] ["tokens", "texts"] (defScope s_fill) := ⟨rfl, rfl, rfl, by decide +kernel, rfl, by decide +kernel, by decide +kernel⟩
theorem cal_fill (T : Fx K w mg) (c_marks_of : CalR P w K mg base 2 "marks_of" R_marks_of) (c_filled_tokens : CalR P w K mg base 3 "filled_tokens" R_filled_tokens)  : CalR P w K mg base 4 "fill" (R_fill) := by
  refine cal_of T.f_fill sc_fill (fun _ _ _ _ _ _ us hl => match us, hl with | [_, _], _ => rfl) ?_ (fun f cdv A outer s H E hr => ⟨_, pss_cons (ps_for PassesOwn.never rfl (pi_listK (K := K) rfl (C8.pe_c c_marks_of hr (by omega) rfl (pa_cons (pv 0) (pa_nil)))) (pg_name (i := 2) sc_fill.nd rfl (.inl rfl))
       (pss_one (ps_if (pt_cmpR op_ge (pv 2) (pe_callB (call_lenK (K := K) rfl) (by rfl) T.b_len PySem.boot_len (pa_cons (pv 1) pa_nil)) (by first | exact nomark _ | rfl))
         (pss_one (ps_never))
         (pss_nil))))
      (pss_one (ps_ret (C8.pe_c c_filled_tokens hr (by omega) rfl (pa_cons (pv 0) (pa_cons (pv 1) (pa_nil)))))), ?_⟩)
  · intro l d h
    obtain ⟨ts, texts, rfl, hl, hj, hi, rfl⟩ := h
    rfl
  · intro l d h
    obtain ⟨ts, texts, rfl, hl, hj, hi, rfl⟩ := h
    have hm : ∀ n, n ∈ marks (ts.flatMap tokItems) → n < texts.length := fun n hn => by
      unfold marks at hn
      obtain ⟨i, hi, e⟩ := List.mem_filterMap.mp hn
      obtain ⟨t, ht, hit⟩ := List.mem_flatMap.mp hi
      cases i with
      | tx u => cases e
      | mk m =>
        cases e
        have J := hj t ht
        unfold tokItems at hit
        rcases List.mem_append.mp hit with z | z
        · exact J.1.2.2 n z
        · obtain ⟨q, hq, z⟩ := List.mem_flatMap.mp z
          cases ea : t.ats with
          | none => rw [ea] at hq; cases hq
          | some l =>
            rw [ea] at hq
            have J2 := (J.2 l ea).2 q hq
            rcases List.mem_append.mp z with z | z
            · exact J2.1.2.2 n z
            · cases ev : q.2 with
              | none => rw [ev] at z; cases z
              | some v => rw [ev] at z; exact (J2.2 v ev).2.2 n z
    refine sd_seq (sd_foldq (marks (ts.flatMap tokItems)) (fun (n : Nat) => PyData.int n) (fun j => [some (.list (ts.map MTok.d)), some (textsD texts), none]) (fun j n => [some (.list (ts.map MTok.d)), some (textsD texts), some (.int (n : Int))]) (fun j => none) (src_lst (ev_call (ea_cons (ev_var rfl) ea_nil) ⟨ts, rfl, hi, rfl⟩)) (Wk.refl _) rfl (fun j i ls z => by cases z) (fun j a => tgt_name) (fun j n hn => ?_)) (sd_ret (ev_call (ea_cons (ev_var rfl) (ea_cons (ev_var rfl) ea_nil)) ⟨ts, texts, rfl, hl, hj, rfl⟩))
    have z := hm n (List.mem_of_getElem? hn)
    refine sd_if (et_test (ev_op (ev_var rfl) (ev_lenL (ev_var rfl)) rv_geI)) (fun h0 => ?_) (fun h0 => sd_weak sd_next (.same _ (.same _ (.any _ .nil))))
    have w := of_decide_eq_true h0
    rw [List.length_map] at w
    omega

end
end K49

set_option Elab.async false
set_option linter.all false
set_option maxRecDepth 100000
/-! K49Bu: the builder: its objects in the heap, its methods. -/
namespace K49
open PySem L2
/-! ### objects of one's own -/
def Act (H0 G H : Hp) (cs : List (Addr × HO)) : Prop := (∀ c ∈ cs, H c.1 = some c.2 ∧ G c.1 = none ∧ H0 c.1 = none) ∧ (cs.map (·.1)).Nodup
section
variable {K : PySem.W.Frag} {G0 H0 G H G' H' : Hp} {cs : List (Addr × HO)} {a : Addr} {o : HO}
theorem Act.at (h : Act H0 G H cs) (i : Nat) (e : cs[i]? = some (a, o)) : H a = some o ∧ G a = none ∧ H0 a = none := h.1 _ (List.mem_of_getElem? e)
theorem Act.new (h : Act H0 G H cs) (g : Grow G0 H0 G H) (ha : H a = none) : Act H0 G (upd H a o) ((a, o) :: cs) := by
  have ne : ∀ c ∈ cs, c.1 ≠ a := fun c hc e => by
    have z := (h.1 c hc).1
    rw [e, ha] at z; cases z
  refine ⟨fun c hc => ?_, ?_⟩
  · rcases List.mem_cons.mp hc with rfl | hc
    · exact ⟨upd_same, g.gh.non_ ha, g.h.non_ ha⟩
    · rw [upd_ne (ne c hc)]; exact h.1 c hc
  · rw [List.map_cons, List.nodup_cons]
    refine ⟨fun z => ?_, h.2⟩
    obtain ⟨c, hc, e⟩ := List.mem_map.mp z
    exact ne c hc e
theorem Act.far (h : Act H0 G H cs) {i j : Nat} {c d : Addr × HO} (hi : cs[i]? = some c) (hj : cs[j]? = some d) (hn : j ≠ i) : d.1 ≠ c.1 := fun e => by
  have h1 : (cs.map (·.1))[j]? = some d.1 := by rw [List.getElem?_map, hj]; rfl
  have h2 : (cs.map (·.1))[i]? = some c.1 := by rw [List.getElem?_map, hi]; rfl
  exact hn ((List.getElem?_inj (List.getElem?_eq_some_iff.mp h1).1 h.2).mp (by rw [h1, h2, e]))
theorem Act.put (h : Act H0 G H cs) (i : Nat) (e : cs[i]? = some (a, o)) (o' : HO) : Act H0 G (upd H a o') (cs.set i (a, o')) := by
  have hl := (List.getElem?_eq_some_iff.mp e).1
  refine ⟨fun c hc => ?_, ?_⟩
  · obtain ⟨j, hj⟩ := List.mem_iff_getElem?.mp hc
    by_cases q : j = i
    · subst q
      rw [List.getElem?_set_self hl] at hj
      cases hj
      exact ⟨upd_same, (h.at j e).2⟩
    · rw [List.getElem?_set_ne (fun z => q z.symm)] at hj
      rw [upd_ne (h.far e hj q)]
      exact h.1 c (List.mem_of_getElem? hj)
  · have e2 : (cs.set i (a, o')).map (·.1) = cs.map (·.1) := by
      rw [List.map_set]
      refine List.ext_getElem? fun k => ?_
      by_cases q : i = k
      · subst q
        rw [List.getElem?_set_self (by rw [List.length_map]; exact hl), List.getElem?_map, e]; rfl
      · rw [List.getElem?_set_ne q]
    rw [e2]; exact h.2
theorem Act.off (h : Act H0 G H cs) (i : Nat) : Act H0 G H (cs.eraseIdx i) := ⟨fun c hc => h.1 c (List.mem_of_mem_eraseIdx hc), ((List.eraseIdx_sublist cs i).map _).nodup h.2⟩
theorem Act.seal0 (h : Act H0 G H cs) (i : Nat) (e : cs[i]? = some (a, o)) : Act H0 (upd G a o) H (cs.eraseIdx i) := by
  refine ⟨fun c hc => ?_, (h.off i).2⟩
  obtain ⟨j, hj, hc'⟩ := List.mem_eraseIdx_iff_getElem?.mp hc
  obtain ⟨h1, h2, h3⟩ := h.1 c (List.mem_of_getElem? hc')
  exact ⟨h1, by rw [upd_ne (h.far e hc' hj)]; exact h2, h3⟩
theorem Act.grow (h : Act H0 G H cs) (g : Grow G H G' H') : Act H0 G' H' cs := by
  refine ⟨fun c hc => ?_, h.2⟩
  obtain ⟨h1, h2, h3⟩ := h.1 c hc
  refine ⟨g.h _ _ h1, ?_, h3⟩
  cases q : G' c.1 with
  | none => rfl
  | some o =>
    have z := g.nw c.1 h2 (by rw [q]; exact fun z => nomatch z)
    rw [h1] at z; cases z
/-- one of them stands first -/
theorem Act.top (h : Act H0 G H cs) (i : Nat) {c : Addr × HO} (e : cs[i]? = some c) : Act H0 G H (c :: cs.eraseIdx i) := by
  refine ⟨fun d hd => ?_, ?_⟩
  · rcases List.mem_cons.mp hd with rfl | hd
    · exact h.1 _ (List.mem_of_getElem? e)
    · exact h.1 d (List.mem_of_mem_eraseIdx hd)
  · rw [List.map_cons, List.nodup_cons]
    refine ⟨fun z => ?_, (h.off i).2⟩
    obtain ⟨d, hd, e2⟩ := List.mem_map.mp z
    obtain ⟨j, hj, hc'⟩ := List.mem_eraseIdx_iff_getElem?.mp hd
    exact h.far e hc' hj e2
/-- a list of one's own becomes data -/
theorem Act.seal (h : Act H0 G H cs) (g : Grow G0 H0 G H) (i : Nat) {xs : List V} {ds : List PyData} (e : cs[i]? = some (a, .lst xs)) (r : IsL K G xs ds) :
    ∃ G', Ex G G' ∧ Grow G0 H0 G' H ∧ Act H0 G' H (cs.eraseIdx i) ∧ Is K G' (.ref a) (.list ds) := by
  obtain ⟨h1, h2, h3⟩ := h.at i e
  exact ⟨_, Ex.new h2, g.seal h1 h2 h3, h.seal0 i e, .lst upd_same (r.up (Ex.new h2))⟩
theorem Grow.put (g : Grow G0 H0 G H) (h : Act H0 G H cs) (i : Nat) (e : cs[i]? = some (a, o)) (o' : HO) : Grow G0 H0 G (upd H a o') := g.mut (h.at i e).2.1 (h.at i e).2.2
theorem Grow.fresh (g : Grow G0 H0 G H) (ha : H a = none) (o' : HO) : Grow G0 H0 G (upd H a o') := g.mut (g.gh.non_ ha) (g.h.non_ ha)
end

/-! ### the builder -/
def fl2 (tl tg : Addr) : List (Str × V) := [("tokens", .ref tl), ("target", .ref tg)]
inductive BAt (K : PySem.W.Frag) (C : Addr) (H0 G H : Hp) (p : Addr) : List Tok → Prop
  | nil {dx tl tg : Addr} : Act H0 G H [(p, .ins C dx (fl2 tl tg)), (tl, .lst []), (tg, .lst [])] → BAt K C H0 G H p []
  | tok {dx tl a it pr : Addr} {fs xs : List V} {init : List Tok} {k : Kd} {its : List Item} : IsL K G fs (init.map tokD) → IsL K G xs (its.map Item.d) →
      Act H0 G H [(p, .ins C dx (fl2 tl it)), (tl, .lst (fs ++ [.ref a])), (a, .lst [.str (SX.S k.t), .ref it, .ref pr]), (it, .lst xs), (pr, .lst [])] → BAt K C H0 G H p (init ++ [⟨k, its, []⟩])
  | pair0 {dx tl a pr q nm : Addr} {fs qs ns : List V} {iv : V} {init : List Tok} {k : Kd} {its n : List Item} {ps : List (List Item × Option (List Item))} :
      IsL K G fs (init.map tokD) → Is K G iv (itsD its) → IsL K G qs (ps.map pairD) → IsL K G ns (n.map Item.d) →
      Act H0 G H [(p, .ins C dx (fl2 tl nm)), (tl, .lst (fs ++ [.ref a])), (a, .lst [.str (SX.S k.t), iv, .ref pr]), (pr, .lst (qs ++ [.ref q])), (q, .lst [.ref nm, .non]), (nm, .lst ns)] →
      BAt K C H0 G H p (init ++ [⟨k, its, ps ++ [(n, none)]⟩])
  | pair1 {dx tl a pr q nm vv : Addr} {fs qs ns vs : List V} {iv : V} {init : List Tok} {k : Kd} {its n v : List Item} {ps : List (List Item × Option (List Item))} :
      IsL K G fs (init.map tokD) → Is K G iv (itsD its) → IsL K G qs (ps.map pairD) → IsL K G ns (n.map Item.d) → IsL K G vs (v.map Item.d) →
      Act H0 G H [(p, .ins C dx (fl2 tl nm)), (tl, .lst (fs ++ [.ref a])), (a, .lst [.str (SX.S k.t), iv, .ref pr]), (pr, .lst (qs ++ [.ref q])), (q, .lst [.ref nm, .ref vv]), (nm, .lst ns), (vv, .lst vs)] →
      BAt K C H0 G H p (init ++ [⟨k, its, ps ++ [(n, some v)]⟩])
section
variable {K : PySem.W.Frag} {C p : Addr} {G0 H0 G H G' H' : Hp} {ts init : List Tok} {t : Tok}
theorem BAt.grow (b : BAt K C H0 G H p ts) (g : Grow G H G' H') : BAt K C H0 G' H' p ts := by
  cases b with
  | nil h => exact .nil (h.grow g)
  | tok h1 h2 h => exact .tok (h1.up g.g) (h2.up g.g) (h.grow g)
  | pair0 h1 h2 h3 h4 h => exact .pair0 (h1.up g.g) (h2.up g.g) (h3.up g.g) (h4.up g.g) (h.grow g)
  | pair1 h1 h2 h3 h4 h5 h => exact .pair1 (h1.up g.g) (h2.up g.g) (h3.up g.g) (h4.up g.g) (h5.up g.g) (h.grow g)
/-- all but the last token's own list and its list of pairs is data -/
theorem BAt.freezeP (b : BAt K C H0 G H p ts) (e : ts = init ++ [t]) (g : Grow G0 H0 G H) : ∃ G', Ex G G' ∧ Grow G0 H0 G' H ∧ ∃ (dx tl tg a pr : Addr) (fs qs : List V) (iv : V),
    IsL K G' fs (init.map tokD) ∧ Is K G' iv (itsD t.its) ∧ IsL K G' qs (t.prs.map pairD) ∧
    Act H0 G' H [(p, .ins C dx (fl2 tl tg)), (tl, .lst (fs ++ [.ref a])), (a, .lst [.str (SX.S t.k.t), iv, .ref pr]), (pr, .lst qs)] := by
  cases b with
  | nil h => simp at e
  | tok h1 h2 h =>
    obtain ⟨rfl, e2⟩ := List.append_inj' e rfl
    cases e2
    obtain ⟨G1, x1, g1, h', r1⟩ := h.seal g 3 rfl h2
    exact ⟨G1, x1, g1, _, _, _, _, _, _, [], _, h1.up x1, r1, .nil, h'⟩
  | pair0 h1 h2 h3 h4 h =>
    obtain ⟨rfl, e2⟩ := List.append_inj' e rfl
    cases e2
    obtain ⟨G1, x1, g1, h', r1⟩ := h.seal g 5 rfl h4
    obtain ⟨G2, x2, g2, h'', r2⟩ := h'.seal (K := K) g1 4 rfl (.cons r1 (.cons .non .nil))
    have x := x1.trans x2
    refine ⟨G2, x, g2, _, _, _, _, _, _, _, _, h1.up x, h2.up x, ?_, h''⟩
    rw [List.map_append]
    exact (h3.up x).app (.one r2)
  | pair1 h1 h2 h3 h4 h5 h =>
    obtain ⟨rfl, e2⟩ := List.append_inj' e rfl
    cases e2
    obtain ⟨G0', x0, g0', h0, r0⟩ := h.seal g 6 rfl h5
    obtain ⟨G1, x1, g1, h', r1⟩ := h0.seal g0' 5 rfl (h4.up x0)
    obtain ⟨G2, x2, g2, h'', r2⟩ := h'.seal (K := K) g1 4 rfl (.cons r1 (.cons (r0.up x1) .nil))
    have x := (x0.trans x1).trans x2
    refine ⟨G2, x, g2, _, _, _, _, _, _, _, _, h1.up x, h2.up x, ?_, h''⟩
    rw [List.map_append]
    exact (h3.up x).app (.one r2)
theorem BAt.empty (b : BAt K C H0 G H p ts) (e : ts = []) : ∃ dx tl tg, Act H0 G H [(p, .ins C dx (fl2 tl tg)), (tl, .lst []), (tg, .lst [])] := by
  cases b with
  | nil h => exact ⟨_, _, _, h⟩
  | tok h1 h2 h => simp at e
  | pair0 h1 h2 h3 h4 h => simp at e
  | pair1 h1 h2 h3 h4 h5 h => simp at e
/-- all tokens are data -/
theorem BAt.freeze (b : BAt K C H0 G H p ts) (g : Grow G0 H0 G H) : ∃ G', Ex G G' ∧ Grow G0 H0 G' H ∧ ∃ (dx tl tg : Addr) (fs : List V), IsL K G' fs (ts.map tokD) ∧ Act H0 G' H [(p, .ins C dx (fl2 tl tg)), (tl, .lst fs)] := by
  rcases List.eq_nil_or_concat ts with rfl | ⟨init, t, rfl⟩
  · obtain ⟨dx, tl, tg, h⟩ := b.empty rfl
    exact ⟨G, .refl G, g, _, _, _, [], .nil, h.off 2⟩
  · rw [List.concat_eq_append] at b ⊢
    obtain ⟨G1, x1, g1, dx, tl, tg, a, pr, fs, qs, iv, h1, h2, h3, h⟩ := b.freezeP rfl g
    obtain ⟨G2, x2, g2, h', r2⟩ := h.seal g1 3 rfl h3
    obtain ⟨G3, x3, g3, h'', r3⟩ := h'.seal (K := K) g2 2 rfl (.cons (.str _) (.cons (h2.up x2) (.cons r2 .nil)))
    have x := (x1.trans x2).trans x3
    refine ⟨G3, x, g3, dx, tl, tg, _, ?_, h''⟩
    rw [List.map_append]
    exact ((h1.up x2).up x3).app (.one r3)
end

/-! ### bounds -/
def QB (p : Item → Prop) (n : Nat) (q : List Item × Option (List Item)) : Prop := (∀ i ∈ q.1, p i) ∧ q.1.length ≤ n ∧ ∀ l, q.2 = some l → (∀ i ∈ l, p i) ∧ l.length ≤ n
def TB1 (p : Item → Prop) (n : Nat) (t : Tok) : Prop := (∀ i ∈ t.its, p i) ∧ t.its.length ≤ n ∧ t.prs.length ≤ n ∧ ∀ q ∈ t.prs, QB p n q
def TB (p : Item → Prop) (n : Nat) (ts : List Tok) : Prop := ts.length ≤ n ∧ ∀ t ∈ ts, TB1 p n t
/-- the builder can take it -/
def Pre (ts : List Tok) (e : Evt) : Prop :=
  match e.1 with
  | .text => True
  | .raw => True
  | .tag => True
  | .fin => True
  | .comment => e.2 = .tx [] ∨ ts ≠ []
  | .name => ts ≠ []
  | .attr => ts ≠ []
  | .value => ∃ init t ps n v, ts = init ++ [t] ∧ t.prs = ps ++ [(n, v)] ∧ (e.2 = .tx [] ∨ v.isSome = true)
  | .close => True

/-! ### promises -/
def spInit (K : PySem.W.Frag) (C : Addr) : Sp := fun vs H Q _ => ∃ G0 H0 G p dx, vs = [.ref p] ∧ Grow G0 H0 G H ∧ Act H0 G H [(p, .ins C dx [])] ∧
  ∀ G' H', Ex G G' → Grow G0 H0 G' H' → BAt K C H0 G' H' p [] → Q .non H'
def spBegin (K : PySem.W.Frag) (C : Addr) : Sp := fun vs H Q _ => ∃ G0 H0 G p ts k, vs = [.ref p, .str (SX.S (Kd.t k))] ∧ Grow G0 H0 G H ∧ BAt K C H0 G H p ts ∧ ts.length ≤ 1000000 ∧
  ∀ G' H', Ex G G' → Grow G0 H0 G' H' → BAt K C H0 G' H' p (ts ++ [⟨k, [], []⟩]) → Q .non H'
def spAttr (K : PySem.W.Frag) (C : Addr) : Sp := fun vs H Q _ => ∃ G0 H0 G p init t i iv, vs = [.ref p, iv] ∧ Is K G iv (Item.d i) ∧ Grow G0 H0 G H ∧ BAt K C H0 G H p (init ++ [t]) ∧ t.prs.length ≤ 1000000 ∧
  ∀ G' H', Ex G G' → Grow G0 H0 G' H' → BAt K C H0 G' H' p (init ++ [t.attr i]) → Q .non H'
def spValue (K : PySem.W.Frag) (C : Addr) : Sp := fun vs H Q _ => ∃ G0 H0 G p init k its ps n v i iv, vs = [.ref p, iv] ∧ Is K G iv (Item.d i) ∧ Grow G0 H0 G H ∧ BAt K C H0 G H p (init ++ [⟨k, its, ps ++ [(n, v)]⟩]) ∧ (i = .tx [] ∨ v.isSome = true) ∧ (∀ l, v = some l → l.length ≤ 1000000) ∧
  ∀ G' H', Ex G G' → Grow G0 H0 G' H' → BAt K C H0 G' H' p (init ++ [(⟨k, its, ps ++ [(n, v)]⟩ : Tok).value i]) → Q .non H'
def spTake (K : PySem.W.Frag) (C : Addr) : Sp := fun vs H Q _ => ∃ G0 H0 G p ts e ev, vs = [.ref p, ev] ∧ Is K G ev (evD e) ∧ Grow G0 H0 G H ∧ BAt K C H0 G H p ts ∧ Pre ts e ∧ TB It1 100000 ts ∧
  ∀ G' H', Ex G G' → Grow G0 H0 G' H' → BAt K C H0 G' H' p (take ts e) → Q .non H'
/-- the method m keeps its promise -/
def Me (P : Program) (w : World) (K : PySem.W.Frag) (mg : Str → Option Value) (base : Heap) (k : Nat) (m : Str) (ps : List Str) (sp : Sp) : Prop :=
  ∃ fd, FnOk P w K mg base CX0 k (He.ma K (He.ga K "Builder") m) fd ps sp ∧ Binds K fd ps []
section
variable {P : Program} {w : World} {K : PySem.W.Frag} {mg : Str → Option Value} {base : Heap}
abbrev bC (K : PySem.W.Frag) : Addr := He.ga K "Builder"
theorem fld_tg (T : Fx K w mg) {σ : L2.St} {H : Hp} {Q : VK} {i : Nat} {p dx tl tg : Addr} (hs : σ[i]? = some (some (.ref p))) (hp : H p = some (.ins (bC K) dx (fl2 tl tg))) (q : Q (.ref tg) H) : tFld K (tVar i) "target" σ H Q :=
  ⟨_, hs, _, _, _, _, _, rfl, hp, T.cl, T.nG, by rfl, q⟩
theorem fld_tl (T : Fx K w mg) {σ : L2.St} {H : Hp} {Q : VK} {i : Nat} {p dx tl tg : Addr} (hs : σ[i]? = some (some (.ref p))) (hp : H p = some (.ins (bC K) dx (fl2 tl tg))) (q : Q (.ref tl) H) : tFld K (tVar i) "tokens" σ H Q :=
  ⟨_, hs, _, _, _, _, _, rfl, hp, T.cl, T.nT, by rfl, q⟩
theorem put_tg {tl tg y : Addr} : putF "target" (.ref y) (fl2 tl tg) = fl2 tl y := by rfl
theorem sc_Builder_begin : FnScope ["self", "kind"] ["self", "kind"] (defScope s_Builder_begin) := ⟨rfl, rfl, rfl, by decide +kernel, rfl, by decide +kernel, by decide +kernel⟩
theorem me_begin (T : Fx K w mg) : Me P w K mg base 1 "begin" ["self", "kind"] (spBegin K (bC K)) := by
  obtain ⟨fd, F⟩ := T.k_begin
  refine ⟨fd, F.ok sc_Builder_begin (fun vs H Q E h => ?_) (fun cdv A outer s H vs Q E hr h => ?_), F.bindsN (fun _ _ _ _ _ _ us hl => match us, hl with | [_, _], _ => rfl)⟩
  · obtain ⟨G0, H0, G, p, ts, k, rfl, _⟩ := h
    rfl
  · obtain ⟨G0, H0, G, p, ts, k, rfl, g, b, hl, q⟩ := h
    refine ⟨_, pss_cons (ps_fld (pv 0) (pe_lst pa_nil) rfl) (pss_one (ps_expr (pe_bm PySem.F.plainAttrs_list PySem.F.slot_list_append PySem.F.type_list_append mt_append (pe_fld (pv 0) rfl) (pa_cons (pe_lst (pa_cons (pv 1) (pa_cons (pe_fld (pv 0) rfl) (pa_cons (pe_lst pa_nil) pa_nil)))) pa_nil)))), ?_⟩
    obtain ⟨G1, x1, g1, dx, tl, tg, fs, hf, a1⟩ := b.freeze g
    refine ⟨Nat.zero_le _, fun it hit => ⟨_, rfl, ?_⟩⟩
    have a2 := a1.new (o := .lst []) g1 hit
    have g2 := g1.fresh hit (.lst [])
    refine ⟨_, _, _, _, rfl, (a2.at 1 rfl).1, T.cl, T.nG, (show 2 < 1000 by decide), ?_⟩
    have a3 := a2.put 1 rfl (.ins (bC K) dx (fl2 tl it))
    have g3 := g2.put a2 1 rfl (.ins (bC K) dx (fl2 tl it))
    rw [put_tg]
    generalize upd (upd H it (.lst [])) p (.ins (bC K) dx (fl2 tl it)) = H3 at a3 g3 ⊢
    have a3' : Act H0 G1 H3 [(it, .lst []), (p, .ins (bC K) dx (fl2 tl it)), (tl, .lst fs)] := a3
    dsimp only
    unfold tDrop tBM
    refine ⟨_, rfl, _, _, _, _, _, rfl, (a3'.at 1 rfl).1, T.cl, T.nT, by rfl, ?_⟩
    refine ⟨Or.inl ⟨rfl, _, .of (a3'.at 2 rfl).1⟩, ?_⟩
    refine ⟨_, rfl, ?_⟩
    refine ⟨_, rfl, _, _, _, _, _, rfl, (a3'.at 1 rfl).1, T.cl, T.nG, by rfl, ?_⟩
    refine ⟨Nat.zero_le _, fun pr hpr => ?_⟩
    have a4 := a3'.new (o := .lst []) g3 hpr
    have g4 := g3.fresh hpr (.lst [])
    generalize upd H3 pr (.lst []) = H4 at a4 g4 ⊢
    refine ⟨(show 3 ≤ sizeLine from sz (by omega)), fun a ha => ?_⟩
    have a5 := a4.new (o := .lst [.str (SX.S k.t), .ref it, .ref pr]) g4 ha
    have g5 := g4.fresh ha (.lst [.str (SX.S k.t), .ref it, .ref pr])
    generalize upd H4 a (.lst [.str (SX.S k.t), .ref it, .ref pr]) = H5 at a5 g5 ⊢
    have a5' : Act H0 G1 H5 [(a, .lst [.str (SX.S k.t), .ref it, .ref pr]), (pr, .lst []), (it, .lst []), (p, .ins (bC K) dx (fl2 tl it)), (tl, .lst fs)] := a5
    refine ⟨_, fs, _, rfl, rfl, (a5'.at 4 rfl).1, by rw [hf.len, List.length_map]; exact szl (by omega), ?_⟩
    have a6 := a5'.put 4 rfl (.lst (fs ++ [.ref a]))
    have g6 := g5.put a5' 4 rfl (.lst (fs ++ [.ref a]))
    have b1 := ((((a6.top 1 rfl).top 2 rfl).top 2 rfl).top 4 rfl).top 4 rfl
    exact q G1 _ x1 g6 (.tok hf .nil b1)
theorem sc_Builder_attribute : FnScope ["self", "item"] ["self", "item"] (defScope s_Builder_attribute) := ⟨rfl, rfl, rfl, by decide +kernel, rfl, by decide +kernel, by decide +kernel⟩
theorem me_attribute (T : Fx K w mg) : Me P w K mg base 1 "attribute" ["self", "item"] (spAttr K (bC K)) := by
  obtain ⟨fd, F⟩ := T.k_attribute
  refine ⟨fd, F.ok sc_Builder_attribute (fun vs H Q E h => ?_) (fun cdv A outer s H vs Q E hr h => ?_), F.bindsN (fun _ _ _ _ _ _ us hl => match us, hl with | [_, _], _ => rfl)⟩
  · obtain ⟨G0, H0, G, p, init, t, i, iv, rfl, _⟩ := h
    rfl
  · obtain ⟨G0, H0, G, p, init, t, i, iv, rfl, hiv, g, b, hl, q⟩ := h
    refine ⟨_, pss_cons (ps_fld (pv 0) (pe_lst (pa_cons (pv 1) pa_nil)) rfl) (pss_one (ps_expr (pe_bm PySem.F.plainAttrs_list PySem.F.slot_list_append PySem.F.type_list_append mt_append
      (pe_ix ix_list (pe_ix ix_list (pe_fld (pv 0) rfl) (pe_un un_neg pe_int) (fun _ _ => rfl)) pe_int (fun _ _ => rfl)) (pa_cons (pe_lst (pa_cons (pe_fld (pv 0) rfl) (pa_cons pe_non pa_nil))) pa_nil)))), ?_⟩
    obtain ⟨G1, x1, g1, dx, tl, tg, a, pr, fs, qs, itv, hf, hit, hq, a1⟩ := b.freezeP rfl g
    refine ⟨_, rfl, (show 1 ≤ sizeLine from sz (by omega)), fun nm hnm => ⟨_, rfl, ?_⟩⟩
    have a2 := a1.new (o := .lst [iv]) g1 hnm
    have g2 := g1.fresh hnm (.lst [iv])
    refine ⟨_, _, _, _, rfl, (a2.at 1 rfl).1, T.cl, T.nG, (show 2 < 1000 by decide), ?_⟩
    have a3 := a2.put 1 rfl (.ins (bC K) dx (fl2 tl nm))
    have g3 := g2.put a2 1 rfl (.ins (bC K) dx (fl2 tl nm))
    rw [put_tg]
    generalize upd (upd H nm (.lst [iv])) p (.ins (bC K) dx (fl2 tl nm)) = H3 at a3 g3 ⊢
    have a3' : Act H0 G1 H3 [(nm, .lst [iv]), (p, .ins (bC K) dx (fl2 tl nm)), (tl, .lst (fs ++ [.ref a])), (a, .lst [.str (SX.S t.k.t), itv, .ref pr]), (pr, .lst qs)] := a3
    dsimp only
    unfold tDrop tBM
    refine ⟨_, rfl, _, _, _, _, _, rfl, (a3'.at 1 rfl).1, T.cl, T.nT, by rfl, ?_⟩
    refine ⟨1, rfl, ⟨_, _, _, _, rfl, rfl, .of (a3'.at 2 rfl).1, atI_last _ _, ?_⟩⟩
    refine ⟨_, _, _, _, rfl, rfl, .of (a3'.at 3 rfl).1, atI_nat (j := 2) rfl, ?_⟩
    refine ⟨Or.inl ⟨rfl, _, .of (a3'.at 4 rfl).1⟩, ?_⟩
    refine ⟨_, rfl, _, _, _, _, _, rfl, (a3'.at 1 rfl).1, T.cl, T.nG, by rfl, ?_⟩
    refine ⟨(show 2 ≤ sizeLine from sz (by omega)), fun q0 hq0 => ?_⟩
    have a4 := a3'.new (o := .lst [.ref nm, .non]) g3 hq0
    have g4 := g3.fresh hq0 (.lst [.ref nm, .non])
    generalize upd H3 q0 (.lst [.ref nm, .non]) = H4 at a4 g4 ⊢
    have a4' : Act H0 G1 H4 [(q0, .lst [.ref nm, .non]), (nm, .lst [iv]), (p, .ins (bC K) dx (fl2 tl nm)), (tl, .lst (fs ++ [.ref a])), (a, .lst [.str (SX.S t.k.t), itv, .ref pr]), (pr, .lst qs)] := a4
    refine ⟨_, qs, _, rfl, rfl, (a4'.at 5 rfl).1, by rw [hq.len, List.length_map]; exact szl (by omega), ?_⟩
    have a5 := a4'.put 5 rfl (.lst (qs ++ [.ref q0]))
    have g5 := g4.put a4' 5 rfl (.lst (qs ++ [.ref q0]))
    have b1 := ((((((a5.top 0 rfl).top 1 rfl).top 1 rfl).top 5 rfl).top 5 rfl).top 5 rfl).top 5 rfl
    exact q G1 _ x1 g5 (.pair0 (n := [i]) hf hit hq (.one (hiv.up x1)) b1)
theorem eq_item (i : Item) {v : V} {G : Hp} (h : Is K G v (Item.d i)) : ∃ b : Bool, (scal v (.str "") = true ∧ decide (v = .str "") = b) ∧ (b = true ↔ i = .tx []) := by
  cases i with
  | tx t =>
    have e : v = .str (SX.S t) := Is.str_ h
    subst e
    refine ⟨decide (t = []), ⟨rfl, ?_⟩, by simp⟩
    have e0 : (V.str (SX.S t) = V.str "") ↔ t = [] := ⟨fun z => SX.S_inj (b := []) (by injection z), fun z => by rw [z]; rfl⟩
    by_cases q : t = []
    · rw [decide_eq_true q, decide_eq_true (e0.mpr q)]
    · rw [decide_eq_false q, decide_eq_false (fun z => q (e0.mp z))]
  | mk n =>
    have e : v = .int n := Is.int_ h
    subst e
    exact ⟨false, ⟨rfl, decide_eq_false (fun z => nomatch z)⟩, by simp⟩
theorem val_last (k : Kd) (its : List Item) (ps : List (List Item × Option (List Item))) (n : List Item) (v : Option (List Item)) (i : Item) :
    (⟨k, its, ps ++ [(n, v)]⟩ : Tok).value i = ⟨k, its, ps ++ [(n, if i = .tx [] then some [] else some (v.getD [] ++ [i]))]⟩ := by
  unfold Tok.value; simp
theorem BAt.prs {C p : Addr} {H0 G H : Hp} {ts : List Tok} (b : BAt K C H0 G H p ts) {init : List Tok} {k : Kd} {its : List Item} {ps : List (List Item × Option (List Item))} {n : List Item} {v : Option (List Item)} (e : ts = init ++ [(⟨k, its, ps ++ [(n, v)]⟩ : Tok)]) : ∃ (dx tl a pr q nm : Addr) (fs qs ns : List V) (iv vo : V),
    IsL K G fs (init.map tokD) ∧ Is K G iv (itsD its) ∧ IsL K G qs (ps.map pairD) ∧ IsL K G ns (n.map Item.d) ∧
    ((v = none ∧ vo = .non ∧ Act H0 G H [(p, .ins C dx (fl2 tl nm)), (tl, .lst (fs ++ [.ref a])), (a, .lst [.str (SX.S k.t), iv, .ref pr]), (pr, .lst (qs ++ [.ref q])), (q, .lst [.ref nm, .non]), (nm, .lst ns)]) ∨
     (∃ (vv : Addr) (vs : List V) (l : List Item), v = some l ∧ vo = .ref vv ∧ IsL K G vs (l.map Item.d) ∧ Act H0 G H [(p, .ins C dx (fl2 tl nm)), (tl, .lst (fs ++ [.ref a])), (a, .lst [.str (SX.S k.t), iv, .ref pr]), (pr, .lst (qs ++ [.ref q])), (q, .lst [.ref nm, .ref vv]), (nm, .lst ns), (vv, .lst vs)])) := by
  cases b with
  | nil h => simp at e
  | tok h1 h2 h =>
    obtain ⟨_, e2⟩ := List.append_inj' e rfl
    simp at e2
  | pair0 h1 h2 h3 h4 h =>
    obtain ⟨rfl, e2⟩ := List.append_inj' e rfl
    simp only [List.cons.injEq, Tok.mk.injEq, and_true] at e2
    obtain ⟨rfl, rfl, e3⟩ := e2
    obtain ⟨rfl, e4⟩ := List.append_inj' e3 rfl
    cases e4
    exact ⟨_, _, _, _, _, _, _, _, _, _, _, h1, h2, h3, h4, .inl ⟨rfl, rfl, h⟩⟩
  | pair1 h1 h2 h3 h4 h5 h =>
    obtain ⟨rfl, e2⟩ := List.append_inj' e rfl
    simp only [List.cons.injEq, Tok.mk.injEq, and_true] at e2
    obtain ⟨rfl, rfl, e3⟩ := e2
    obtain ⟨rfl, e4⟩ := List.append_inj' e3 rfl
    cases e4
    exact ⟨_, _, _, _, _, _, _, _, _, _, _, h1, h2, h3, h4, .inr ⟨_, _, _, rfl, rfl, h5, h⟩⟩
theorem sc_Builder_value : FnScope ["self", "item", "attributes"] ["self", "item"] (defScope s_Builder_value) := ⟨rfl, rfl, rfl, by decide +kernel, rfl, by decide +kernel, by decide +kernel⟩
theorem me_value (T : Fx K w mg) : Me P w K mg base 1 "value" ["self", "item"] (spValue K (bC K)) := by
  obtain ⟨fd, F⟩ := T.k_value
  refine ⟨fd, F.ok sc_Builder_value (fun vs H Q E h => ?_) (fun cdv A outer s H vs Q E hr h => ?_), F.bindsN (fun _ _ _ _ _ _ us hl => match us, hl with | [_, _], _ => rfl)⟩
  · obtain ⟨G0, H0, G, p, init, k, its, ps, n, v, i, iv, rfl, _⟩ := h
    rfl
  · obtain ⟨G0, H0, G, p, init, k, its, ps, n, v, i, iv, rfl, hiv, g, b, hv, hl, q⟩ := h
    refine ⟨_, pss_cons (ps_set (i := 2) sc_Builder_value.nd rfl (.inl rfl) (pe_ix ix_list (pe_ix ix_list (pe_fld (pv 0) rfl) (pe_un un_neg pe_int) (fun _ _ => rfl)) pe_int (fun _ _ => rfl)))
      (pss_one (ps_if (pt_cmpR op_eq (pv 1) pe_str (by first | exact nomark _ | rfl))
        (pss_one (ps_asg (pe_lst pa_nil) (pg_sub (pe_ix ix_list (pv 2) (pe_un un_neg pe_int) (fun _ _ => rfl)) pe_int set_list)))
        (pss_one (ps_expr (pe_bm PySem.F.plainAttrs_list PySem.F.slot_list_append PySem.F.type_list_append mt_append
          (pe_ix ix_list (pe_ix ix_list (pv 2) (pe_un un_neg pe_int) (fun _ _ => rfl)) pe_int (fun _ _ => rfl)) (pa_cons (pv 1) pa_nil)))))), ?_⟩
    obtain ⟨dx, tl, a, pr, q0, nm, fs, qs, ns, itv, vo, hf, hit, hq, hn, hc⟩ := b.prs rfl
    rw [val_last] at q
    obtain ⟨bb, ⟨e1, e2⟩, e3⟩ := eq_item i hiv
    have hp : H p = some (.ins (bC K) dx (fl2 tl nm)) := by rcases hc with ⟨_, _, z⟩ | ⟨_, _, _, _, _, _, z⟩ <;> exact (z.at 0 rfl).1
    have htl : H tl = some (.lst (fs ++ [.ref a])) := by rcases hc with ⟨_, _, z⟩ | ⟨_, _, _, _, _, _, z⟩ <;> exact (z.at 1 rfl).1
    have ha : H a = some (.lst [.str (SX.S k.t), itv, .ref pr]) := by rcases hc with ⟨_, _, z⟩ | ⟨_, _, _, _, _, _, z⟩ <;> exact (z.at 2 rfl).1
    have hpr : H pr = some (.lst (qs ++ [.ref q0])) := by rcases hc with ⟨_, _, z⟩ | ⟨_, _, _, _, _, _, z⟩ <;> exact (z.at 3 rfl).1
    refine ⟨_, rfl, _, _, _, _, _, rfl, hp, T.cl, T.nT, by rfl, ?_⟩
    refine ⟨1, rfl, ⟨_, _, _, _, rfl, rfl, .of htl, atI_last _ _, ?_⟩⟩
    refine ⟨_, _, _, _, rfl, rfl, .of ha, atI_nat (j := 2) rfl, ?_⟩
    dsimp only
    unfold tIfS
    refine ⟨_, rfl, ?_⟩
    refine ⟨e1, ?_⟩
    refine ⟨_, rfl, ?_⟩
    rw [e2]
    cases bb with
    | true =>
      have ei : i = .tx [] := e3.mp rfl
      rw [if_pos ei] at q
      rw [if_pos rfl]
      refine ⟨Nat.zero_le _, fun vv hvv => ?_⟩
      have main : ∀ (cs : List (Addr × HO)), Act H0 G H ([(p, .ins (bC K) dx (fl2 tl nm)), (tl, .lst (fs ++ [.ref a])), (a, .lst [.str (SX.S k.t), itv, .ref pr]), (pr, .lst (qs ++ [.ref q0])), (q0, .lst [.ref nm, vo]), (nm, .lst ns)]) →
        gSub (tOp (rIxL K) (tVar 2) (tUn (rU fun i => V.int (-i)) (tC (V.int 1)))) (tC (V.int 1)) rSetL (.ref vv) [some (.ref p), some iv, some (.ref pr)] (upd H vv (.lst [])) (fun x H' => Q V.non H') := fun cs ac => by
        have a1 := ac.new (o := .lst []) g hvv
        have g1 := g.fresh hvv (.lst [])
        generalize upd H vv (.lst []) = H1 at a1 g1 ⊢
        refine ⟨_, rfl, 1, rfl, _, _, _, _, rfl, rfl, .of (a1.at 4 rfl).1, atI_last _ _, ?_⟩
        refine ⟨_, _, _, 1, rfl, rfl, (a1.at 5 rfl).1, rfl, ?_⟩
        have a2 := a1.put 5 rfl (.lst [.ref nm, .ref vv])
        have g2 := g1.put a1 5 rfl (.lst [.ref nm, .ref vv])
        have b1 := ((((((a2.top 0 rfl).top 6 rfl).top 6 rfl).top 6 rfl).top 6 rfl).top 6 rfl).top 6 rfl
        exact q G _ (.refl G) g2 (.pair1 (vs := []) (v := []) hf hit hq hn .nil b1)
      rcases hc with ⟨_, rfl, z⟩ | ⟨vw, vs, l, _, rfl, _, z⟩
      · exact main [] z
      · exact main [] (z.off 6)
    | false =>
      have ei : ¬ i = .tx [] := fun z => by have := e3.mpr z; cases this
      rw [if_neg ei] at q
      rw [if_neg (by decide)]
      rcases hc with ⟨hv0, _, z⟩ | ⟨vw, vs, l, hv0, rfl, hvs, z⟩
      · rcases hv with z2 | z2
        · exact absurd z2 ei
        · rw [hv0] at z2; cases z2
      · subst hv0
        refine ⟨_, rfl, 1, rfl, _, _, _, _, rfl, rfl, .of hpr, atI_last _ _, ?_⟩
        refine ⟨_, _, _, _, rfl, rfl, .of (z.at 4 rfl).1, atI_nat (j := 1) rfl, ?_⟩
        refine ⟨Or.inl ⟨rfl, _, .of (z.at 6 rfl).1⟩, _, rfl, ?_⟩
        refine ⟨_, vs, _, rfl, rfl, (z.at 6 rfl).1, by rw [hvs.len, List.length_map]; have := hl l rfl; exact szl (by omega), ?_⟩
        have a2 := z.put 6 rfl (.lst (vs ++ [iv]))
        have g2 := g.put z 6 rfl (.lst (vs ++ [iv]))
        refine q G _ (.refl G) g2 (.pair1 (vs := vs ++ [iv]) (v := l ++ [i]) hf hit hq hn ?_ a2)
        rw [List.map_append]
        exact hvs.app (.one hiv)
def tk1 (tl : Addr) : List (Str × V) := [("tokens", .ref tl)]
theorem sc_Builder_init : FnScope ["self"] ["self"] (defScope s_Builder___init__) := ⟨rfl, rfl, rfl, by decide +kernel, rfl, by decide +kernel, by decide +kernel⟩
theorem me_init (T : Fx K w mg) : Me P w K mg base 1 "__init__" ["self"] (spInit K (bC K)) := by
  obtain ⟨fd, F⟩ := T.k___init__
  refine ⟨fd, F.ok sc_Builder_init (fun vs H Q E h => ?_) (fun cdv A outer s H vs Q E hr h => ?_), F.bindsN (fun _ _ _ _ _ _ us hl => match us, hl with | [_], _ => rfl)⟩
  · obtain ⟨G0, H0, G, p, dx, rfl, _⟩ := h
    rfl
  · obtain ⟨G0, H0, G, p, dx, rfl, g, a1, q⟩ := h
    refine ⟨_, pss_cons (ps_fld (pv 0) (pe_lst pa_nil) rfl) (pss_one (ps_fld (pv 0) (pe_lst pa_nil) rfl)), ?_⟩
    refine ⟨Nat.zero_le _, fun tl htl => ⟨_, rfl, ?_⟩⟩
    have a2 := a1.new (o := .lst []) g htl
    have g2 := g.fresh htl (.lst [])
    refine ⟨_, _, _, _, rfl, (a2.at 1 rfl).1, T.cl, T.nT, (show 0 < 1000 by decide), ?_⟩
    have a3 := a2.put 1 rfl (.ins (bC K) dx (tk1 tl))
    have g3 := g2.put a2 1 rfl (.ins (bC K) dx (tk1 tl))
    rw [show putF "tokens" (V.ref tl) [] = tk1 tl from rfl]
    generalize upd (upd H tl (.lst [])) p (.ins (bC K) dx (tk1 tl)) = H3 at a3 g3 ⊢
    have a3' : Act H0 G H3 [(tl, .lst []), (p, .ins (bC K) dx (tk1 tl))] := a3
    refine ⟨Nat.zero_le _, fun tg htg => ⟨_, rfl, ?_⟩⟩
    have a4 := a3'.new (o := .lst []) g3 htg
    have g4 := g3.fresh htg (.lst [])
    refine ⟨_, _, _, _, rfl, (a4.at 2 rfl).1, T.cl, T.nG, (show 1 < 1000 by decide), ?_⟩
    have a5 := a4.put 2 rfl (.ins (bC K) dx (fl2 tl tg))
    have g5 := g4.put a4 2 rfl (.ins (bC K) dx (fl2 tl tg))
    rw [show putF "target" (V.ref tg) (tk1 tl) = fl2 tl tg from by rfl]
    exact q G _ (.refl G) g5 (.nil (((a5.top 0 rfl).top 1 rfl).top 2 rfl))
theorem if_B {c : TT} {t u : TS} {ds : List (Option PyData)} {b : Bool} {D : Ends} {σ : L2.St} {G H : Hp} (h : EvT K c ds b) (gh : Ex G H) (en : EnvI K G σ ds)
    (q1 : b = true → ∀ G' H', Grow G H G' H' → t D σ H') (q2 : b = false → ∀ G' H', Grow G H G' H' → u D σ H') : tIfS c t u D σ H :=
  h σ G H gh en _ fun G' H' g => by
    cases b with
    | true => rw [if_pos rfl]; exact q1 rfl G' H' g
    | false => rw [if_neg (by decide)]; exact q2 rfl G' H' g
theorem rv_item {i : Item} : RV K rEq (Item.d i) (pS []) (.bool (decide (i = .tx []))) := fun G H v u e hv hu Q q => by
  obtain ⟨b, ⟨h1, h2⟩, h3⟩ := eq_item i hv
  rw [hu.str_]
  refine ⟨h1, ?_⟩
  rw [show (SX.S [] : Str) = "" from rfl, h2]
  have e2 : decide (i = .tx []) = b := by
    cases b with
    | true => exact decide_eq_true (h3.mp rfl)
    | false => exact decide_eq_false (fun z => by have := h3.mpr z; cases this)
  rw [e2] at q
  exact q _ G H (.refl e) (.bl _)
theorem lastM_snoc (f : Tok → Tok) (init : List Tok) (t : Tok) : lastM f (init ++ [t]) = init ++ [f t] := by unfold lastM; simp
theorem take_tr {k : Kd} (h : k = .text ∨ k = .raw) (ts : List Tok) (i : Item) : take ts (k, i) = if (ts.getLast?.map (·.k)) = some k then lastM (·.add i) ts else ts ++ [⟨k, [i], []⟩] := by
  rcases h with rfl | rfl <;> rfl
theorem BAt.add {C p : Addr} {G0 H0 G H : Hp} {ts init : List Tok} {t : Tok} (b : BAt K C H0 G H p ts) (e : ts = init ++ [t]) (g : Grow G0 H0 G H) : ∃ (dx tl tg : Addr) (xs : List V),
    H p = some (.ins C dx (fl2 tl tg)) ∧ H tg = some (.lst xs) ∧ (xs.length = t.its.length ∨ ∃ q ∈ t.prs, xs.length = q.1.length) ∧
    ∀ (iv : V) (i : Item), Is K G iv (Item.d i) → Grow G0 H0 G (upd H tg (.lst (xs ++ [iv]))) ∧ BAt K C H0 G (upd H tg (.lst (xs ++ [iv]))) p (init ++ [t.add i]) := by
  cases b with
  | nil h => simp at e
  | tok h1 h2 h =>
    obtain ⟨rfl, e2⟩ := List.append_inj' e rfl
    cases e2
    refine ⟨_, _, _, _, (h.at 0 rfl).1, (h.at 3 rfl).1, .inl (by rw [h2.len, List.length_map]), fun iv i hi => ⟨g.put h 3 rfl _, ?_⟩⟩
    refine .tok (xs := _ ++ [iv]) h1 ?_ (h.put 3 rfl _)
    rw [List.map_append]
    exact h2.app (.one hi)
  | pair0 h1 h2 h3 h4 h =>
    obtain ⟨rfl, e2⟩ := List.append_inj' e rfl
    cases e2
    refine ⟨_, _, _, _, (h.at 0 rfl).1, (h.at 5 rfl).1, .inr ⟨_, List.mem_append_right _ (List.mem_singleton.mpr rfl), by rw [h4.len, List.length_map]⟩, fun iv i hi => ⟨g.put h 5 rfl _, ?_⟩⟩
    unfold Tok.add
    rw [List.getLast?_concat, List.dropLast_concat]
    refine .pair0 (ns := _ ++ [iv]) h1 h2 h3 ?_ (h.put 5 rfl _)
    rw [List.map_append]
    exact h4.app (.one hi)
  | pair1 h1 h2 h3 h4 h5 h =>
    obtain ⟨rfl, e2⟩ := List.append_inj' e rfl
    cases e2
    refine ⟨_, _, _, _, (h.at 0 rfl).1, (h.at 5 rfl).1, .inr ⟨_, List.mem_append_right _ (List.mem_singleton.mpr rfl), by rw [h4.len, List.length_map]⟩, fun iv i hi => ⟨g.put h 5 rfl _, ?_⟩⟩
    unfold Tok.add
    rw [List.getLast?_concat, List.dropLast_concat]
    refine .pair1 (ns := _ ++ [iv]) h1 h2 h3 ?_ h5 (h.put 5 rfl _)
    rw [List.map_append]
    exact h4.app (.one hi)
/-- what stands at the builder -/
theorem BAt.look {C p : Addr} {H0 G H : Hp} {ts : List Tok} (b : BAt K C H0 G H p ts) : ∃ (dx tl tg : Addr) (xs : List V), H p = some (.ins C dx (fl2 tl tg)) ∧ H tl = some (.lst xs) ∧ xs.length = ts.length ∧
    (∀ init t, ts = init ++ [t] → ∃ (a : Addr) (fs ys : List V), xs = fs ++ [.ref a] ∧ H a = some (.lst (.str (SX.S t.k.t) :: ys))) := by
  cases b with
  | nil h => exact ⟨_, _, _, _, (h.at 0 rfl).1, (h.at 1 rfl).1, rfl, fun init t e => by simp at e⟩
  | tok h1 h2 h =>
    refine ⟨_, _, _, _, (h.at 0 rfl).1, (h.at 1 rfl).1, by simp [h1.len], fun init t e => ?_⟩
    obtain ⟨rfl, e2⟩ := List.append_inj' e rfl
    cases e2
    exact ⟨_, _, _, rfl, (h.at 2 rfl).1⟩
  | pair0 h1 h2 h3 h4 h =>
    refine ⟨_, _, _, _, (h.at 0 rfl).1, (h.at 1 rfl).1, by simp [h1.len], fun init t e => ?_⟩
    obtain ⟨rfl, e2⟩ := List.append_inj' e rfl
    cases e2
    exact ⟨_, _, _, rfl, (h.at 2 rfl).1⟩
  | pair1 h1 h2 h3 h4 h5 h =>
    refine ⟨_, _, _, _, (h.at 0 rfl).1, (h.at 1 rfl).1, by simp [h1.len], fun init t e => ?_⟩
    obtain ⟨rfl, e2⟩ := List.append_inj' e rfl
    cases e2
    exact ⟨_, _, _, rfl, (h.at 2 rfl).1⟩
/-- self.m(..) -/
theorem meth_go {T : Fx K w mg} {H : Hp} {σ : L2.St} {Q : VK} {p : Addr} {m : Str} {sp : Sp} {E : XK} {t : TA} {dx tl tg : Addr} (hs : σ[0]? = some (some (.ref p))) (hp : H p = some (.ins (bC K) dx (fl2 tl tg))) (hm : (fl2 tl tg).lookup m = none)
    (q : t σ H fun vs H2 => sp (.ref p :: (vs ++ [])) H2 Q E) : tMeth (bC K) m sp [] E (tVar 0) t σ H Q := ⟨_, hs, p, dx, _, rfl, hp, hm, q⟩
theorem sc_Builder_take : FnScope ["self", "event", "kind", "item"] ["self", "event"] (defScope s_Builder_take) := ⟨rfl, rfl, rfl, by decide +kernel, rfl, by decide +kernel, by decide +kernel⟩
theorem me_take (T : Fx K w mg) : Me P w K mg base 2 "take" ["self", "event"] (spTake K (bC K)) := by
  obtain ⟨fdB, FB, bB⟩ := me_begin (P := P) (w := w) (K := K) (mg := mg) (base := base) T
  obtain ⟨fdA, FA, bA⟩ := me_attribute (P := P) (w := w) (K := K) (mg := mg) (base := base) T
  obtain ⟨fdV, FV, bV⟩ := me_value (P := P) (w := w) (K := K) (mg := mg) (base := base) T
  obtain ⟨fd, F⟩ := T.k_take
  refine ⟨fd, F.ok sc_Builder_take (fun vs H Q E h => ?_) (fun cdv A outer s H vs Q E hr h => ?_), F.bindsN (fun _ _ _ _ _ _ us hl => match us, hl with | [_, _], _ => rfl)⟩
  · obtain ⟨G0, H0, G, p, ts, e, ev, rfl, _⟩ := h
    rfl
  · obtain ⟨G0, H0, G, p, ts, ⟨k, i⟩, ev, rfl, hev, g, b, hpre, htb, q⟩ := h
    refine ⟨_, pss_cons (ps_asg (pv 1) (pg_tupK (K := K) rfl rfl (pgs_cons (pg_name (i := 2) sc_Builder_take.nd rfl (.inl rfl)) (pgs_cons (pg_name (i := 3) sc_Builder_take.nd rfl (.inl rfl)) (pgs_nil)))))
      (pss_one (ps_if (pt_cmpR (in_seqK (K := K) rfl) (pv 2) (pe_tup (pa_cons (pe_str) (pa_cons (pe_str) (pa_nil)))) (by first | exact nomark _ | rfl))
        (pss_cons (ps_if (PW.pt (pw_or (pt_cmpR op_eq (pe_callB call_len (by rfl) T.b_len PySem.boot_len (pa_cons (pe_fld (pv 0) rfl) pa_nil)) pe_int (by first | exact nomark _ | rfl)) (pw_or1 (pt_cmpR op_ne (pe_ix ix_list (pe_ix ix_list (pe_fld (pv 0) rfl) (pe_un un_neg pe_int) (fun _ _ => rfl)) pe_int (fun _ _ => rfl)) (pv 2) (by first | exact nomark _ | rfl)))))
            (pss_one (ps_expr (pe_meth (E := E0) (pv 0) T.cl T.m_begin FB hr bB .nil C8.pass0 (pa_cons (pv 2) pa_nil)))) pss_nil)
          (pss_one (ps_expr (pe_bm PySem.F.plainAttrs_list PySem.F.slot_list_append PySem.F.type_list_append mt_append (pe_fld (pv 0) rfl) (pa_cons (pv 3) pa_nil)))))
        (pss_one (ps_if (PW.pt (pw_or (pt_cmpR (in_seqK (K := K) rfl) (pv 2) (pe_tup (pa_cons (pe_str) (pa_cons (pe_str) (pa_nil)))) (by first | exact nomark _ | rfl)) (pw_or1 (PW.pt (pw_and (pt_cmpR op_eq (pv 2) (pe_str) (by first | exact nomark _ | rfl)) (pw_and1 (pt_cmpR op_eq (pv 3) (pe_str) (by first | exact nomark _ | rfl))))))))
          (pss_one (ps_expr (pe_meth (E := E0) (pv 0) T.cl T.m_begin FB hr bB .nil C8.pass0 (pa_cons (pv 2) pa_nil))))
          (pss_one (ps_if (pt_cmpR (in_seqK (K := K) rfl) (pv 2) (pe_tup (pa_cons (pe_str) (pa_cons (pe_str) (pa_nil)))) (by first | exact nomark _ | rfl))
            (pss_one (ps_expr (pe_bm PySem.F.plainAttrs_list PySem.F.slot_list_append PySem.F.type_list_append mt_append (pe_fld (pv 0) rfl) (pa_cons (pv 3) pa_nil))))
            (pss_one (ps_if (pt_cmpR op_eq (pv 2) (pe_str) (by first | exact nomark _ | rfl))
              (pss_one (ps_expr (pe_meth (E := E0) (pv 0) T.cl T.m_attribute FA hr bA .nil C8.pass0 (pa_cons (pv 3) pa_nil))))
              (pss_one (ps_if (pt_cmpR op_eq (pv 2) (pe_str) (by first | exact nomark _ | rfl))
                (pss_one (ps_expr (pe_meth (E := E0) (pv 0) T.cl T.m_value FV hr bV .nil C8.pass0 (pa_cons (pv 3) pa_nil))))
                pss_nil)))))))))), ?_⟩
    refine ⟨ev, rfl, ?_⟩
    refine tgt_tup2 (ds := [none, some (evD (k, i)), none, none]) _ G H ev g.gh hev (.any _ (.val hev (.any _ (.any _ .nil)))) _ fun σ en hσ hl => ?_
    have h0 : σ[0]? = some (some (.ref p)) := hσ 0 (by decide)
    have en : EnvI K G σ [none, some (evD (k, i)), some (pS k.t), some i.d] := en
    obtain ⟨kv, h2, hkv⟩ := en.get (i := 2) rfl
    rw [hkv.str_] at h2
    obtain ⟨iv, h3, hiv⟩ := en.get (i := 3) rfl
    have app : ∀ (G2 H2 : Hp) (init2 : List Tok) (t2 : Tok), Ex G G2 → Grow G0 H0 G2 H2 → BAt K (bC K) H0 G2 H2 p (init2 ++ [t2]) → (t2.its.length ≤ 100000 ∧ ∀ q ∈ t2.prs, q.1.length ≤ 100000) → take ts (k, i) = init2 ++ [t2.add i] →
        tDrop (tBM K "list" rAppend (tFld K (tVar 0) "target") (tCons (tVar 3) tNil)) { nx := fun x H' => Q V.non H', rt := Q } σ H2 := fun G2 H2 init2 t2 x2 g2 b2 hb2 e2 => by
      obtain ⟨dx, tl, tg, xs, k1, k2, k3, k4⟩ := b2.add rfl g2
      refine ⟨_, h0, _, _, _, _, _, rfl, k1, T.cl, T.nG, by rfl, ?_⟩
      refine ⟨Or.inl ⟨rfl, _, .of k2⟩, iv, h3, ?_⟩
      have hx : xs.length ≤ 100000 := by
        rcases k3 with z | ⟨q, hq, z⟩
        · rw [z]; exact hb2.1
        · rw [z]; exact hb2.2 q hq
      refine ⟨_, xs, _, rfl, rfl, k2, szl (by omega), ?_⟩
      obtain ⟨g3, b3⟩ := k4 iv i (hiv.up x2)
      rw [← e2] at b3
      exact q G2 _ x2 g3 b3
    have beg : ∀ (G2 H2 : Hp) (D : Ends), Ex G G2 → Grow G0 H0 G2 H2 → BAt K (bC K) H0 G2 H2 p ts → (∀ G' H', Ex G G' → Grow G0 H0 G' H' → BAt K (bC K) H0 G' H' p (ts ++ [⟨k, [], []⟩]) → D.nx σ H') →
        tDrop (tMeth (bC K) "begin" (spBegin K (bC K)) [] E0 (tVar 0) (tCons (tVar 2) tNil)) D σ H2 := fun G2 H2 D x2 g2 b2 q2 => by
      obtain ⟨dx, tl, tg, xs, k1, k2, k3, k4⟩ := b2.look
      refine ⟨_, h0, p, dx, _, rfl, k1, by rfl, _, h2, ?_⟩
      exact ⟨G0, H0, G2, p, ts, k, rfl, g2, b2, by have := htb.1; omega, fun G' H' x' g' b' => q2 G' H' (x2.trans x') g' b'⟩
    refine if_B (et_test (ev_op (ev_var rfl) (ev_tup (ea_cons (ev_strS [116, 101, 120, 116]) (ea_cons (ev_strS [114, 97, 119]) (ea_nil)))) (rv_inTs [[116, 101, 120, 116], [114, 97, 119]]))) g.gh en (fun hb G1 H1 g1 => ?_) (fun hb G1 H1 g1 => ?_)
    · have hk : k = .text ∨ k = .raw := by cases k <;> first | exact .inl rfl | exact .inr rfl | exact absurd hb (by decide)
      have gg := g.trans g1
      have bb := b.grow g1
      obtain ⟨dx, tl, tg, xs, k1, k2, k3, k4⟩ := bb.look
      have fresh : take ts (k, i) = ts ++ [⟨k, [i], []⟩] → tSeq (tDrop (tMeth (bC K) "begin" (spBegin K (bC K)) [] E0 (tVar 0) (tCons (tVar 2) tNil))) (tDrop (tBM K "list" rAppend (tFld K (tVar 0) "target") (tCons (tVar 3) tNil))) { nx := fun x H' => Q V.non H', rt := Q } σ H1 := fun e =>
        beg G1 H1 _ g1.g gg bb fun G' H' x' g' b' => app G' H' ts ⟨k, [], []⟩ x' g' b' ⟨Nat.zero_le _, fun q hq => by cases hq⟩ e
      refine ⟨_, h0, _, _, _, _, _, rfl, k1, T.cl, T.nT, by rfl, ?_⟩
      refine ⟨_, xs.length, rfl, .inl ⟨_, .of k2, rfl⟩, ?_⟩
      refine ⟨rfl, _, rfl, ?_⟩
      rcases List.eq_nil_or_concat ts with hn | ⟨init, t, hn⟩
      · have e0 : decide (V.int (xs.length : Int) = V.int 0) = true := by rw [k3, hn]; rfl
        rw [e0]
        exact fresh (by rw [take_tr hk, hn]; rfl)
      · rw [List.concat_eq_append] at hn
        obtain ⟨a, fs, ys, rfl, k5⟩ := k4 init t hn
        have e0 : decide (V.int ((fs ++ [V.ref a]).length : Int) = V.int 0) = false := decide_eq_false fun z => by
          injection z with z
          rw [k3, hn] at z
          simp at z
          omega
        rw [e0]
        refine ⟨_, h0, _, _, _, _, _, rfl, k1, T.cl, T.nT, by rfl, ?_⟩
        refine ⟨1, rfl, ⟨_, _, _, _, rfl, rfl, .of k2, atI_last _ _, ?_⟩⟩
        refine ⟨_, _, _, _, rfl, rfl, .of k5, atI_nat (j := 0) rfl, ?_⟩
        refine ⟨_, h2, rfl, _, rfl, ?_⟩
        have htt := htb.2 t (by rw [hn]; simp)
        by_cases hkk : t.k = k
        · have e1 : (!decide (V.str (SX.S t.k.t) = V.str (SX.S k.t))) = false := by rw [hkk]; simp
          rw [e1]
          exact app G1 H1 init t g1.g gg (hn ▸ bb) ⟨htt.2.1, fun q hq => (htt.2.2.2 q hq).2.1⟩ (by rw [take_tr hk, hn, List.getLast?_concat, Option.map_some, hkk, if_pos rfl, lastM_snoc])
        · have e1 : (!decide (V.str (SX.S t.k.t) = V.str (SX.S k.t))) = true := by
            have z : ¬ V.str (SX.S t.k.t) = V.str (SX.S k.t) := fun z => by
              injection z with z
              have z := SX.S_inj z
              apply hkk
              generalize t.k = k' at z
              revert z; cases k' <;> cases k <;> decide
            rw [decide_eq_false z]; rfl
          rw [e1]
          exact fresh (by rw [take_tr hk, hn, List.getLast?_concat, Option.map_some, if_neg (fun z => hkk (Option.some.inj z))])
    have en1 := en.mono g1.g
    refine if_B (et_or (et_test (ev_op (ev_var rfl) (ev_tup (ea_cons (ev_strS [116, 97, 103]) (ea_cons (ev_strS [101, 110, 100]) (ea_nil)))) (rv_inTs [[116, 97, 103], [101, 110, 100]]))) (fun hq => et_and (et_test (ev_op (ev_var rfl) (ev_strS [99, 111, 109, 109, 101, 110, 116]) rv_eqT)) (fun hq => et_test (ev_op (ev_var rfl) (ev_strS []) rv_item)))) g1.gh en1 (fun hb2 G2 H2 g2 => ?_) (fun hb2 G2 H2 g2 => ?_)
    · have e : take ts (k, i) = ts ++ [⟨k, [], []⟩] := by
        cases k <;> first | exact absurd hb (by decide) | rfl | (exfalso; revert hb2; simp [Kd.t]; done) | skip
        have hi : i = .tx [] := by simpa [Kd.t] using hb2
        rw [hi]; rfl
      exact beg G2 H2 _ (g1.g.trans g2.g) ((g.trans g1).trans g2) ((b.grow g1).grow g2) fun G' H' x' g' b' => q G' H' x' g' (e ▸ b')
    have en2 := en1.mono g2.g
    refine if_B (et_test (ev_op (ev_var rfl) (ev_tup (ea_cons (ev_strS [110, 97, 109, 101]) (ea_cons (ev_strS [99, 111, 109, 109, 101, 110, 116]) (ea_nil)))) (rv_inTs [[110, 97, 109, 101], [99, 111, 109, 109, 101, 110, 116]]))) g2.gh en2 (fun hb3 G3 H3 g3 => ?_) (fun hb3 G3 H3 g3 => ?_)
    · have gx := ((g.trans g1).trans g2).trans g3
      have bx := ((b.grow g1).grow g2).grow g3
      have hne : ts ≠ [] ∧ take ts (k, i) = lastM (·.add i) ts := by
        cases k <;> first | exact ⟨hpre, rfl⟩ | exact absurd hb3 (by decide) | skip
        have hi : ¬ i = .tx [] := by simpa [Kd.t] using hb2
        refine ⟨?_, if_neg hi⟩
        rcases hpre with z | z
        · exact absurd z hi
        · exact z
      rcases List.eq_nil_or_concat ts with hn | ⟨init, t, hn⟩
      · exact absurd hn hne.1
      · rw [List.concat_eq_append] at hn
        have htt := htb.2 t (by rw [hn]; simp)
        exact app G3 H3 init t ((g1.g.trans g2.g).trans g3.g) gx (hn ▸ bx) ⟨htt.2.1, fun q hq => (htt.2.2.2 q hq).2.1⟩ (by rw [hne.2, hn, lastM_snoc])
    have en3 := en2.mono g3.g
    refine if_B (et_test (ev_op (ev_var rfl) (ev_strS [97, 116, 116, 114, 105, 98, 117, 116, 101]) rv_eqT)) g3.gh en3 (fun hb4 G4 H4 g4 => ?_) (fun hb4 G4 H4 g4 => ?_)
    · have gx := (((g.trans g1).trans g2).trans g3).trans g4
      have xx := ((g1.g.trans g2.g).trans g3.g).trans g4.g
      have bx := (((b.grow g1).grow g2).grow g3).grow g4
      have hk : k = .attr := by cases k <;> first | rfl | exact absurd hb4 (by decide)
      subst hk
      rcases List.eq_nil_or_concat ts with hn | ⟨init, t, hn⟩
      · exact absurd hn hpre
      · rw [List.concat_eq_append] at hn
        have htt := htb.2 t (by rw [hn]; simp)
        obtain ⟨dx, tl, tg, xs, k1, k2, k3, k4⟩ := bx.look
        refine ⟨_, h0, p, dx, _, rfl, k1, by rfl, _, h3, ?_⟩
        refine ⟨G0, H0, G4, p, init, t, i, iv, rfl, hiv.up xx, gx, hn ▸ bx, by have := htt.2.2.1; omega, fun G' H' x' g' b' => q G' H' (xx.trans x') g' ?_⟩
        have e : take ts (.attr, i) = init ++ [t.attr i] := by rw [hn]; exact lastM_snoc _ _ _
        rw [e]; exact b'
    have en4 := en3.mono g4.g
    refine if_B (et_test (ev_op (ev_var rfl) (ev_strS [118, 97, 108, 117, 101]) rv_eqT)) g4.gh en4 (fun hb5 G5 H5 g5 => ?_) (fun hb5 G5 H5 g5 => ?_)
    · have gx := ((((g.trans g1).trans g2).trans g3).trans g4).trans g5
      have xx := (((g1.g.trans g2.g).trans g3.g).trans g4.g).trans g5.g
      have bx := ((((b.grow g1).grow g2).grow g3).grow g4).grow g5
      have hk : k = .value := by cases k <;> first | rfl | exact absurd hb5 (by decide)
      subst hk
      obtain ⟨init, ⟨kt, its, prs⟩, ps, n, v, hn, hps, hv⟩ := hpre
      have hps : prs = ps ++ [(n, v)] := hps
      subst hps
      have htt := htb.2 _ (by rw [hn]; exact List.mem_append_right _ (List.mem_singleton.mpr rfl))
      obtain ⟨dx, tl, tg, xs, k1, k2, k3, k4⟩ := bx.look
      refine ⟨_, h0, p, dx, _, rfl, k1, by rfl, _, h3, ?_⟩
      refine ⟨G0, H0, G5, p, init, kt, its, ps, n, v, i, iv, rfl, hiv.up xx, gx, hn ▸ bx, hv, fun l hl => ?_, fun G' H' x' g' b' => q G' H' (xx.trans x') g' ?_⟩
      · have z := ((htt.2.2.2 (n, v) (List.mem_append_right _ (List.mem_singleton.mpr rfl))).2.2 l hl).2
        omega
      · have e : take ts (.value, i) = init ++ [(⟨kt, its, ps ++ [(n, v)]⟩ : Tok).value i] := by rw [hn]; exact lastM_snoc _ _ _
        rw [e]; exact b'
    · have gx := ((((g.trans g1).trans g2).trans g3).trans g4).trans g5
      have xx := (((g1.g.trans g2.g).trans g3.g).trans g4.g).trans g5.g
      have bx := ((((b.grow g1).grow g2).grow g3).grow g4).grow g5
      have hk : k = .close := by cases k <;> first | rfl | exact absurd hb (by decide) | (exfalso; revert hb2; simp [Kd.t]; done) | exact absurd hb3 (by decide) | exact absurd hb4 (by decide) | exact absurd hb5 (by decide)
      subst hk
      exact q G5 H5 xx gx bx
end
end K49

set_option Elab.async false
set_option linter.all false
set_option maxRecDepth 100000
/-! K49Rd: marked tokens of events; read, read_row. -/
namespace K49
open PySem L2
/-! ### bounds of the tokens taken -/
theorem QB.mono {P : Item → Prop} {n m : Nat} {q : List Item × Option (List Item)} (h : QB P n q) (l : n ≤ m) : QB P m q := ⟨h.1, Nat.le_trans h.2.1 l, fun a ha => ⟨(h.2.2 a ha).1, Nat.le_trans (h.2.2 a ha).2 l⟩⟩
theorem TB1.mono {P : Item → Prop} {n m : Nat} {t : Tok} (h : TB1 P n t) (l : n ≤ m) : TB1 P m t := ⟨h.1, Nat.le_trans h.2.1 l, Nat.le_trans h.2.2.1 l, fun q hq => (h.2.2.2 q hq).mono l⟩
theorem TB1.add {P : Item → Prop} {n : Nat} {t : Tok} {i : Item} (h : TB1 P n t) (hi : P i) : TB1 P (n + 1) (t.add i) := by
  have h' := h.mono (Nat.le_succ n)
  unfold Tok.add
  cases e : t.prs.getLast? with
  | none =>
    refine ⟨fun j hj => ?_, ?_, h'.2.2.1, h'.2.2.2⟩
    · rcases List.mem_append.mp hj with z | z
      · exact h.1 j z
      · rw [List.mem_singleton.mp z]; exact hi
    · simp only [List.length_append, List.length_cons, List.length_nil]; have := h.2.1; omega
  | some q =>
    obtain ⟨ps, hps⟩ := List.getLast?_eq_some_iff.mp e
    have hq := h.2.2.2 q (by rw [hps]; simp)
    refine ⟨h'.1, h'.2.1, ?_, fun r hr => ?_⟩
    · have := h'.2.2.1
      rw [hps] at this ⊢
      simpa using this
    · rcases List.mem_append.mp hr with z | z
      · exact h'.2.2.2 r (List.dropLast_subset _ z)
      · rw [List.mem_singleton.mp z]
        refine ⟨fun j hj => ?_, ?_, fun l hl => ?_⟩
        · rcases List.mem_append.mp hj with y | y
          · exact hq.1 j y
          · rw [List.mem_singleton.mp y]; exact hi
        · simp only [List.length_append, List.length_cons, List.length_nil]; have := hq.2.1; omega
        · have y := hq.2.2 l hl
          exact ⟨y.1, by omega⟩
theorem TB1.attr {P : Item → Prop} {n : Nat} {t : Tok} {i : Item} (h : TB1 P n t) (hi : P i) : TB1 P (n + 1) (t.attr i) := by
  have h' := h.mono (Nat.le_succ n)
  refine ⟨h'.1, h'.2.1, ?_, fun r hr => ?_⟩
  · show (t.prs ++ _).length ≤ _
    rw [List.length_append]
    have := h.2.2.1
    simp only [List.length_cons, List.length_nil]
    omega
  · rcases List.mem_append.mp hr with z | z
    · exact h'.2.2.2 r z
    · rw [List.mem_singleton.mp z]
      refine ⟨fun j hj => ?_, by simp, fun l hl => by cases hl⟩
      rw [List.mem_singleton.mp hj]; exact hi
theorem TB1.value {P : Item → Prop} {n : Nat} {t : Tok} {i : Item} (h : TB1 P n t) (hi : P i) : TB1 P (n + 1) (t.value i) := by
  have h' := h.mono (Nat.le_succ n)
  unfold Tok.value
  cases e : t.prs.getLast? with
  | none => exact h'
  | some q =>
    obtain ⟨ps, hps⟩ := List.getLast?_eq_some_iff.mp e
    have hq := h.2.2.2 q (by rw [hps]; simp)
    refine ⟨h'.1, h'.2.1, ?_, fun r hr => ?_⟩
    · have := h'.2.2.1
      rw [hps] at this ⊢
      simpa using this
    · rcases List.mem_append.mp hr with z | z
      · exact h'.2.2.2 r (List.dropLast_subset _ z)
      · rw [List.mem_singleton.mp z]
        refine ⟨hq.1, Nat.le_succ_of_le hq.2.1, fun l hl => ?_⟩
        by_cases e0 : i = .tx []
        · simp only [e0, if_true] at hl
          cases hl
          exact ⟨fun j hj => (by cases hj), by simp⟩
        · simp only [if_neg e0] at hl
          cases hl
          cases e1 : q.2 with
          | none =>
            refine ⟨fun j hj => ?_, by simp⟩
            simp only [Option.getD_none, List.nil_append, List.mem_singleton] at hj
            rw [hj]; exact hi
          | some v =>
            have y := hq.2.2 v e1
            refine ⟨fun j hj => ?_, ?_⟩
            · simp only [Option.getD_some, List.mem_append, List.mem_singleton] at hj
              rcases hj with z | z
              · exact y.1 j z
              · rw [z]; exact hi
            · simp only [Option.getD_some, List.length_append, List.length_cons, List.length_nil]
              omega
theorem TB.last {P : Item → Prop} {n : Nat} {ts : List Tok} {f : Tok → Tok} (h : TB P n ts) (hf : ∀ t, TB1 P n t → TB1 P (n + 1) (f t)) : TB P (n + 1) (lastM f ts) := by
  rcases List.eq_nil_or_concat ts with rfl | ⟨init, t, rfl⟩
  · exact ⟨Nat.zero_le _, fun t ht => by cases ht⟩
  · rw [List.concat_eq_append] at h ⊢
    rw [lastM_snoc]
    refine ⟨by have := h.1; simp only [List.length_append, List.length_cons, List.length_nil] at this ⊢; omega, fun u hu => ?_⟩
    rcases List.mem_append.mp hu with z | z
    · exact (h.2 u (List.mem_append_left _ z)).mono (Nat.le_succ n)
    · rw [List.mem_singleton.mp z]
      exact hf t (h.2 t (by simp))
theorem TB.more {P : Item → Prop} {n : Nat} {ts : List Tok} {u : Tok} (h : TB P n ts) (hu : TB1 P (n + 1) u) : TB P (n + 1) (ts ++ [u]) := by
  refine ⟨by have := h.1; simp only [List.length_append, List.length_cons, List.length_nil]; omega, fun t ht => ?_⟩
  rcases List.mem_append.mp ht with z | z
  · exact (h.2 t z).mono (Nat.le_succ n)
  · rw [List.mem_singleton.mp z]; exact hu
theorem TB.take {P : Item → Prop} {n : Nat} {ts : List Tok} {e : Evt} (h : TB P n ts) (hi : P e.2) : TB P (n + 1) (take ts e) := by
  obtain ⟨k, i⟩ := e
  have new0 : ∀ k : Kd, TB1 P (n + 1) ⟨k, [], []⟩ := fun k => ⟨fun j hj => (by cases hj), by simp, by simp, fun q hq => by cases hq⟩
  have new1 : ∀ k : Kd, TB1 P (n + 1) ⟨k, [i], []⟩ := fun k => ⟨fun j hj => (by rw [List.mem_singleton.mp hj]; exact hi), by simp, by simp, fun q hq => by cases hq⟩
  have hA : TB P (n + 1) (lastM (·.add i) ts) := h.last fun t ht => ht.add hi
  cases k with
  | text => rw [take_tr (.inl rfl)]; split <;> first | exact hA | exact h.more (new1 _)
  | raw => rw [take_tr (.inr rfl)]; split <;> first | exact hA | exact h.more (new1 _)
  | tag => exact h.more (new0 _)
  | fin => exact h.more (new0 _)
  | comment =>
    show TB P (n + 1) (if i = .tx [] then ts ++ [⟨.comment, [], []⟩] else lastM (·.add i) ts)
    split
    · exact h.more (new0 _)
    · exact hA
  | name => exact hA
  | attr => exact h.last fun t ht => ht.attr hi
  | value => exact h.last fun t ht => ht.value hi
  | close => exact ⟨by have := h.1; show ts.length ≤ _; omega, fun t ht => (h.2 t ht).mono (Nat.le_succ n)⟩
theorem build_snoc (es : List Evt) {j : Nat} {e : Evt} (h : es[j]? = some e) : build (es.take (j + 1)) = take (build (es.take j)) e := foldl_take take [] h
theorem TB.build {P : Item → Prop} (es : List Evt) (h : ∀ e ∈ es, P e.2) : ∀ j, j ≤ es.length → TB P j (build (es.take j)) := fun j => by
  induction j with
  | zero => intro _; exact ⟨by simp [K49.build], fun t ht => by simp [K49.build] at ht⟩
  | succ j ih =>
    intro hj
    have e := List.getElem?_eq_getElem (l := es) (i := j) hj
    rw [build_snoc es e]
    exact (ih (by omega)).take (h _ (List.mem_of_getElem? e))
/-- the builder can take them all -/
def PreAll (es : List Evt) : Prop := ∀ j e, es[j]? = some e → Pre (build (es.take j)) e
structure EvOK (es : List Evt) : Prop where
  pre : PreAll es
  it : ∀ e ∈ es, It1 e.2
  len : es.length ≤ 9000
def R_mt : List PyData → PyData → Prop := fun l d => ∃ es, l = [evsD es] ∧ EvOK es ∧ d = .list ((mkToks es).map MTok.d)
section
variable {P : Program} {w : World} {K : PySem.W.Frag} {mg : Str → Option Value} {base : Heap}
theorem tgt_unl3 {ds : List (Option PyData)} {i j k : Nat} {a b c : PyData} : Tgt K (gUnl K 3 (gCons (gName i) (gCons (gName j) (gCons (gName k) gNil)))) [i, j, k] (.list [a, b, c]) ds (((ds.set i (some a)).set j (some b)).set k (some c)) := fun σ G H v e r en Q q => by
  cases r with
  | lst h1 h2 =>
    cases h2 with
    | cons r1 h2 =>
      cases h2 with
      | cons r2 h2 =>
        cases h2 with
        | cons r3 h2 =>
          cases h2
          refine ⟨_, _, rfl, .of (e _ _ h1), rfl, _, _, rfl, _, _, rfl, _, _, rfl, rfl, q _ (((en.set r1 i).set r2 j).set r3 k) (fun l hl => ?_) (by simp)⟩
          rw [List.getElem?_set_ne (fun z => hl (by simp [z])), List.getElem?_set_ne (fun z => hl (by simp [z])), List.getElem?_set_ne (fun z => hl (by simp [z]))]
/-- for, behind its source -/
theorem for_J {α : Type} {J : L2.It} {g : TG} {tb : TS} {js : List Nat} (l : List α) (f : α → PyData) (E : List (Option PyData)) (F : α → List (Option PyData)) (A : Nat → Option (Nat × List PyData))
    {G0 H0 G1 H1 : Hp} {σ : L2.St} {D : Ends} (w1 : Walk K G1 J (l.map f)) (s1 : SI K G0 H0 G1 H1 σ E (A 0))
    (hj : ∀ j i ls, A j = some (i, ls) → i ∉ js) (hg : ∀ a, Tgt K g js (f a) E (F a))
    (turn : ∀ j a, l[j]? = some a → SD K tb (F a) (A j) (.nx E (A (j + 1)))) (q : OutW K G0 H0 G1 D (.nx E (A l.length))) : tFor (fun _ H R => R J H) g tb D σ H1 := by
  refine ⟨fun i m σ2 H2 => m = l.length - i ∧ i ≤ l.length ∧ ∃ G2, Ex G1 G2 ∧ SI K G0 H0 G2 H2 σ2 E (A i), ⟨l.length, by omega, Nat.zero_le _, G1, Ex.refl _, s1⟩, ?_⟩
  rintro i m σ2 H2 ⟨rfl, hi, G2, e2, s2⟩
  have w2 := w1.mono e2
  by_cases hlt : i < l.length
  · have hlt' : i < (l.map f).length := by rw [List.length_map]; exact hlt
    refine .inr ⟨w2.go i G2 H2 (Ex.refl _) s2.gr.gh hlt', fun σ3 H3 => i + 1 ≤ l.length ∧ ∃ G3, Ex G1 G3 ∧ SI K G0 H0 G3 H3 σ3 E (A (i + 1)), fun σ3 H3 ⟨l3, G3, e3, s3⟩ => ⟨l.length - (i + 1), by omega, rfl, l3, G3, e3, s3⟩, fun v H' y => ?_⟩
    obtain ⟨rfl, x, hx, r⟩ := w2.yld i G2 H2 v H' (Ex.refl _) s2.gr.gh hlt' y
    rw [List.getElem?_map, List.getElem?_eq_getElem hlt] at hx
    cases hx
    refine hg l[i] σ2 G2 _ v s2.gr.gh r s2.en _ fun σ3 en3 k3 l3 => ?_
    exact turn i l[i] (List.getElem?_eq_getElem hlt) σ3 G0 H0 G2 H' _ ⟨s2.gr, en3, s2.ac.slots fun z ls e => k3 z (hj i z ls e)⟩ fun σ4 G4 H4 e4 s4 => ⟨hlt, G4, e2.trans e4, s4⟩
  · have ei : i = l.length := by omega
    subst ei
    exact .inl ⟨w2.stop _ G2 H2 (Ex.refl _) s2.gr.gh (by rw [List.length_map]; exact Nat.le_refl _), q σ2 G2 H2 e2 s2⟩
theorem sc_marked_tokens : FnScope ["events", "builder", "event", "result", "kind", "items", "pairs", "pair"] ["events"] (defScope s_marked_tokens) := ⟨rfl, rfl, rfl, by decide +kernel, rfl, by decide +kernel, by decide +kernel⟩
def E8 : List (Option PyData) := [none, none, none, none, none, none, none, none]
theorem cal_marked_tokens (T : Fx K w mg) (c_pieces_of : CalR P w K mg base 1 "pieces_of" R_pieces_of) (c_marked_pair : CalR P w K mg base 2 "marked_pair" R_marked_pair) : CalR P w K mg base 3 "marked_tokens" R_mt := by
  obtain ⟨fdI, FI, bI⟩ := me_init (P := P) (w := w) (K := K) (mg := mg) (base := base) T
  obtain ⟨fdT, FT, bT⟩ := me_take (P := P) (w := w) (K := K) (mg := mg) (base := base) T
  obtain ⟨fd, F, hm⟩ := T.f_marked_tokens
  have ok : FnOk P w K mg base CX0 3 (He.ga K "marked_tokens") fd ["events"] (spR K R_mt) := by
    refine F.ok sc_marked_tokens (fun vs H Q E h => ?_) (fun cdv A outer s H vs Q E hr h => ?_)
    · obtain ⟨G, l, d, _, hl, ⟨es, rfl, _⟩, _⟩ := h
      rw [hl.len]; rfl
    · obtain ⟨G, l, d, e, hl, ⟨es, rfl, ok, rfl⟩, q⟩ := h
      have hr1 : Room 1 _ := hr.mono (by decide)
      refine ⟨_, PSs.nox (pss_cons (ps_set (i := 1) sc_marked_tokens.nd rfl (Or.inl rfl) (pe_make0 (E := E0) T.mkr FI hr rfl T.g_Builder bI .nil C8.pass0))
        (pss_cons (ps_for PassesOwn.never rfl (pi_listK (K := K) rfl (pv 0)) (pg_name (i := 2) sc_marked_tokens.nd rfl (.inl rfl))
          (pss_one (ps_expr (pe_meth (E := E0) (pv 1) T.cl T.m_take FT hr bT .nil C8.pass0 (pa_cons (pv 2) pa_nil)))))
        (pss_cons (ps_set (i := 3) sc_marked_tokens.nd rfl (.inl rfl) (pe_lst pa_nil))
        (pss_cons (ps_for PassesOwn.never rfl (pi_listK (K := K) rfl (pe_fld (pv 1) rfl)) (pg_unl (n := 3) rfl (pgs_cons (pg_name (i := 4) sc_marked_tokens.nd rfl (.inl rfl)) (pgs_cons (pg_name (i := 5) sc_marked_tokens.nd rfl (.inl rfl)) (pgs_cons (pg_name (i := 6) sc_marked_tokens.nd rfl (.inl rfl)) pgs_nil))))
          (pss_one (ps_if (pt_cmpR (in_seqK (K := K) rfl) (pv 4) (pe_tup (pa_cons (pe_str) (pa_cons (pe_str) (pa_nil)))) (by first | exact nomark _ | rfl))
       (pss_one (ps_expr (pe_bm PySem.F.plainAttrs_list PySem.F.slot_list_append PySem.F.type_list_append mt_append (pv 3) (pa_cons (pe_tup (pa_cons (pv 4) (pa_cons (C8.pe_c c_pieces_of hr (by omega) rfl (pa_cons (pv 5) (pa_nil))) (pa_cons (pe_lc rfl sc_marked_tokens.nd (pi_listK (K := K) rfl (pv 6)) (blkOk_by (own := [("pair", 7)]) (N := ["events", "builder", "event", "result", "kind", "items", "pairs", "pair"]) (sc := defScope s_marked_tokens) (by decide +kernel)) (fun _ _ _ _ _ => pg_name (i := 7) sc_marked_tokens.nd rfl (.inl rfl)) (fun _ _ _ _ _ => pts_nil) (fun _ _ _ _ _ => C8.pe_c c_marked_pair hr (by omega) rfl (pa_cons (pv 7) (pa_nil)))) (pa_nil))))) pa_nil))))
       (pss_one (ps_expr (pe_bm PySem.F.plainAttrs_list PySem.F.slot_list_append PySem.F.type_list_append mt_append (pv 3) (pa_cons (pe_tup (pa_cons (pv 4) (pa_cons (C8.pe_c c_pieces_of hr (by omega) rfl (pa_cons (pv 5) (pa_nil))) (pa_nil)))) pa_nil)))))))
        (pss_one (ps_ret (pv 3))))))), ?_⟩
      cases hl with
      | cons hev hl =>
        cases hl
        rename_i ev
        intro p dx np ndx nex
        have g0 : Grow G H G H := .refl e
        have gA := g0.mut (a := dx) (o := .own p) (e.non_ ndx) ndx
        have hp1 : (upd H dx (.own p)) p = none := by rw [upd_ne (fun z => nex z.symm)]; exact np
        have gB := gA.mut (a := p) (o := .ins (bC K) dx []) (e.non_ np) np
        have a0 : Act H G (upd (upd H dx (.own p)) p (.ins (bC K) dx [])) [(p, .ins (bC K) dx [])] := ⟨fun c hc => by
          rw [List.mem_singleton.mp hc]
          exact ⟨upd_same, e.non_ np, np⟩, by simp⟩
        refine ⟨G, H, G, p, dx, rfl, gB, a0, fun G1 H1 x1 g1 b1 => ⟨rfl, ?_⟩⟩
        have hev1 := hev.up x1
        have hbd : ∀ j, j ≤ es.length → TB It1 100000 (build (es.take j)) := fun j hj => by
          have z := TB.build es ok.it j hj
          have := ok.len
          exact ⟨by have := z.1; omega, fun t ht => (z.2 t ht).mono (by omega)⟩
        -- for event in events
        cases hev1 with
        | lst ha hvs =>
        rename_i a vs
        have w1 : Walk K G1 (Itl K a) (es.map evD) := walk_lst (.of ha) hvs
        refine ⟨_, rfl, a, rfl, ⟨vs, .of (g1.gh _ _ ha)⟩, ?_⟩
        refine ⟨fun i m σ2 H2 => m = es.length - i ∧ i ≤ es.length ∧ ∃ G2 v, Ex G1 G2 ∧ Grow G H G2 H2 ∧ BAt K (bC K) H G2 H2 p (build (es.take i)) ∧ σ2 = [some (.ref a), some (.ref p), v, none, none, none, none, none],
          ⟨es.length, by omega, Nat.zero_le _, G1, none, .refl G1, g1, b1, rfl⟩, ?_⟩
        rintro i m σ2 H2 ⟨rfl, hi, G2, v2, x2, g2, b2, rfl⟩
        have w2 := w1.mono x2
        by_cases hlt : i < es.length
        · have hlt' : i < (es.map evD).length := by rw [List.length_map]; exact hlt
          refine .inr ⟨w2.go i G2 H2 (Ex.refl _) g2.gh hlt', fun σ3 H3 => i + 1 ≤ es.length ∧ ∃ G3 v, Ex G1 G3 ∧ Grow G H G3 H3 ∧ BAt K (bC K) H G3 H3 p (build (es.take (i + 1))) ∧ σ3 = [some (.ref a), some (.ref p), v, none, none, none, none, none],
            fun σ3 H3 ⟨l3, z⟩ => ⟨es.length - (i + 1), by omega, rfl, l3, z⟩, fun v H' y => ?_⟩
          obtain ⟨rfl, x, hx, r⟩ := w2.yld i G2 H2 v H' (Ex.refl _) g2.gh hlt' y
          rw [List.getElem?_map, List.getElem?_eq_getElem hlt] at hx
          cases hx
          obtain ⟨dx2, tl, tg, xs, k1, k2, k3, k4⟩ := b2.look
          refine ⟨_, rfl, p, dx2, _, rfl, k1, by rfl, _, rfl, ?_⟩
          refine ⟨G, H, G2, p, build (es.take i), es[i], v, rfl, r, g2, b2, ok.pre i _ (List.getElem?_eq_getElem hlt), hbd i (by omega), fun G' H' x' g' b' => ⟨hlt, G', _, x2.trans x', g', ?_, rfl⟩⟩
          rw [build_snoc es (List.getElem?_eq_getElem hlt)]
          exact b'
        · have ei : i = es.length := by omega
          subst ei
          refine .inl ⟨w2.stop _ G2 H2 (Ex.refl _) g2.gh (by rw [List.length_map]; exact Nat.le_refl _), ?_⟩
          rw [List.take_length] at b2
          have hbe := hbd es.length (Nat.le_refl _)
          rw [List.take_length] at hbe
          have hbe2 : TB It1 9000 (build es) := by
            have z := TB.build es ok.it es.length (Nat.le_refl _)
            rw [List.take_length] at z
            have := ok.len
            exact ⟨by have := z.1; omega, fun t ht => (z.2 t ht).mono (by omega)⟩
          obtain ⟨G3, x3, g3, dx3, tl, tg, fs, hfs, a3⟩ := b2.freeze g2
          -- result = []
          refine ⟨Nat.zero_le _, fun r hr3 => ?_⟩
          have a4 := a3.new (o := .lst []) g3 hr3
          have g4 := g3.fresh hr3 (.lst [])
          generalize upd H2 r (.lst []) = H4 at a4 g4 ⊢
          have a4' : Act H G3 H4 [(r, .lst []), (p, .ins (bC K) dx3 (fl2 tl tg)), (tl, .lst fs)] := a4
          obtain ⟨c1, c2, c3⟩ := a4'.at 2 rfl
          have g5 := g4.seal c1 c2 c3
          have a5 := a4'.seal0 2 rfl
          have x5 : Ex G3 (upd G3 tl (.lst fs)) := Ex.new c2
          have hfs5 := hfs.up x5
          have wt : Walk K (upd G3 tl (.lst fs)) (Itl K tl) ((build es).map tokD) := walk_lst (.of upd_same) hfs5
          refine ⟨_, rfl, _, _, _, _, _, rfl, (a4'.at 1 rfl).1, T.cl, T.nT, by rfl, ?_⟩
          refine ⟨tl, rfl, ⟨fs, .of c1⟩, ?_⟩
          have s5 : SI K G H (upd G3 tl (.lst fs)) H4 [some (.ref a), some (.ref p), v2, some (.ref r), none, none, none, none] E8 (some (3, [])) :=
            ⟨g5, .any _ (.any _ (.any _ (.any _ (.any _ (.any _ (.any _ (.any _ .nil))))))), r, [], rfl, (a5.at 0 rfl).1, (a5.at 0 rfl).2.1, (a5.at 0 rfl).2.2, .nil⟩
          refine for_J (js := [4, 5, 6]) (build es) tokD E8 (fun t => ((E8.set 4 (some (pS t.k.t))).set 5 (some (itsD t.its))).set 6 (some (.list (t.prs.map pairD)))) (fun j => some (3, (((build es).take j).map mkTok).map MTok.d)) wt s5 (fun j i ls z => by cases z; decide) (fun t => tgt_unl3) (fun j t ht => ?_) ?_
          · have htt := hbe2.2 t (List.mem_of_getElem? ht)
            have hln : ((((build es).take j).map mkTok).map MTok.d).length ≤ 9000 := by
              rw [List.length_map, List.length_map, List.length_take]; have := hbe2.1; omega
            rw [List.take_add_one, ht, Option.toList_some, List.map_append, List.map_append]
            have hL : L1 t.its := ⟨htt.1, htt.2.1⟩
            have hP : ∀ q ∈ t.prs, P1 q := fun q hq => ⟨⟨(htt.2.2.2 q hq).1, (htt.2.2.2 q hq).2.1⟩, fun l hl => (htt.2.2.2 q hq).2.2 l hl⟩
            refine sd_if (et_test (ev_op (ev_var rfl) (ev_tup (ea_cons (ev_strS [116, 97, 103]) (ea_cons (ev_strS [101, 110, 100]) (ea_nil)))) (rv_inTs [[116, 97, 103], [101, 110, 100]]))) (fun h0 => ?_) (fun h0 => ?_)
            · have hk : t.k = .tag ∨ t.k = .fin := by simpa [kt_tag, kt_fin] using h0
              refine sd_weak (sd_app (ev_is (ev_tup (ea_cons (ev_var rfl) (ea_cons (ev_call (ea_cons (ev_var rfl) (ea_nil)) ⟨_, rfl, hL, rfl⟩) (ea_cons (ev_lcL t.prs pairD (fun q => mpD (mkPair q)) _ (ev_var rfl) (by have := htt.2.2.1; omega) (by decide) (fun a ha b hb e => by rw [pairD_inj e]) (fun q hq => ⟨tgt_name, ev_call (ea_cons (ev_var rfl) ea_nil) ⟨q, rfl, hP q hq, rfl⟩⟩)) (ea_nil))))) ?_) (by omega)) (.same _ (.same _ (.same _ (.same _ (.any _ (.any _ (.any _ (.same _ .nil))))))))
              show _ = MTok.d (mkTok t)
              unfold mkTok MTok.d
              rw [if_pos hk]
              simp only [List.map_map]
              rfl
            · have hk : ¬ (t.k = .tag ∨ t.k = .fin) := fun z => by
                have y : decide (t.k.t ∈ [[116, 97, 103], [101, 110, 100]]) = true := by simpa [kt_tag, kt_fin] using z
                rw [y] at h0; cases h0
              refine sd_weak (sd_app (ev_is (ev_tup (ea_cons (ev_var rfl) (ea_cons (ev_call (ea_cons (ev_var rfl) (ea_nil)) ⟨_, rfl, hL, rfl⟩) (ea_nil)))) ?_) (by omega)) (.same _ (.same _ (.same _ (.same _ (.any _ (.any _ (.any _ (.same _ .nil))))))))
              show _ = MTok.d (mkTok t)
              unfold mkTok MTok.d
              rw [if_neg hk]
          · rw [List.take_length]
            intro σ6 G6 H6 x6 s6
            exact (sd_seal (sd_ret (ev_var rfl))) σ6 G H G6 H6 _ s6 fun v G' H' g' r' => q v G' H' g' r'
  exact ⟨_, fd, ["events"], [], ok, hm, F.kp, F.bindsN (fun _ _ _ _ _ _ us hl => match us, hl with | [_], _ => rfl), .nil⟩
end
end K49

set_option Elab.async false
set_option linter.all false
set_option maxRecDepth 100000
/-! K49Wf: the order of events: modes; what build forgets, and what it does not. -/
namespace K49
inductive Mode where
  | O | T | N | V | C
  deriving DecidableEq
/-- an item of one sign, or a mark -/
def sg : Item → Bool
  | .tx [_] => true
  | .tx _ => false
  | .mk _ => true
def mo : Mode → Evt → Option Mode
  | .O, (.text, i) => if sg i then some .O else none
  | .O, (.raw, i) => if sg i then some .O else none
  | .O, (.tag, i) => if i = .tx [] then some .T else none
  | .O, (.fin, i) => if i = .tx [] then some .T else none
  | .O, (.comment, i) => if i = .tx [] then some .C else none
  | .T, (.name, i) => if sg i then some .T else none
  | .T, (.attr, i) => if sg i then some .N else none
  | .T, (.close, i) => if i = .tx [] then some .O else none
  | .N, (.name, i) => if sg i then some .N else none
  | .N, (.attr, i) => if sg i then some .N else none
  | .N, (.value, i) => if i = .tx [] then some .V else none
  | .N, (.close, i) => if i = .tx [] then some .O else none
  | .V, (.value, i) => if sg i then some .V else none
  | .V, (.attr, i) => if sg i then some .N else none
  | .V, (.close, i) => if i = .tx [] then some .O else none
  | .C, (.comment, i) => if sg i then some .C else none
  | .C, (.close, i) => if i = .tx [] then some .O else none
  | _, _ => none
def moS : Mode → List Evt → Option Mode
  | m, [] => some m
  | m, e :: es => match mo m e with
    | some m' => moS m' es
    | none => none
theorem moS_app : ∀ (es fs : List Evt) (m : Mode), moS m (es ++ fs) = (moS m es).bind fun m' => moS m' fs
  | [], fs, m => rfl
  | e :: es, fs, m => by
    show (match mo m e with | some m' => moS m' (es ++ fs) | none => none) = Option.bind (match mo m e with | some m' => moS m' es | none => none) _
    cases mo m e with
    | none => rfl
    | some m' => exact moS_app es fs m'
/-- the modes of a place -/
def Md : Pl → Mode → Prop
  | .text, m => m = .O
  | .raw, m => m = .O
  | .tag, m => m = .T
  | .gap, m => m = .T ∨ m = .N ∨ m = .V
  | .name, m => m = .N
  | .equals, m => m = .N
  | .bare, m => m = .V
  | .double, m => m = .V
  | .single, m => m = .V
  | .comment, m => m = .C
def Res.md (m : Mode) (r : Res) : Prop := ∃ m', moS m r.2 = some m' ∧ Md r.1.p m'
theorem md_kd {s : Sta} {m : Mode} (h : Md s.p m) (hk : s.p.kd.isSome = true) (i : Item) (hi : sg i = true) : mo m (s.p.kd!, i) = some m := by
  obtain ⟨p, el, pd⟩ := s
  cases p <;> simp only [Md] at h <;> first | (subst h; simp [Pl.kd!, Pl.kd, mo, hi]; done) | (simp [Pl.kd] at hk; done)
theorem md_evs {s : Sta} {m : Mode} (h : Md s.p m) (hk : s.p.kd.isSome = true) : ∀ t : Tx, moS m (evs s.p.kd! t) = some m
  | [] => rfl
  | c :: t => by
    show (match mo m (s.p.kd!, .tx [c]) with | some m' => moS m' (evs s.p.kd! t) | none => none) = some m
    rw [md_kd h hk (.tx [c]) rfl]
    exact md_evs h hk t
theorem md_gap {s : Sta} {c : Nat} {m : Mode} (hp : s.p = .gap) (h : m = .T ∨ m = .N ∨ m = .V) : (stGap s c).md m := by
  unfold stGap
  split
  · exact ⟨m, rfl, by rw [hp]; exact h⟩
  · split
    · refine ⟨.N, ?_, rfl⟩
      rcases h with rfl | rfl | rfl <;> rfl
    · split
      · refine ⟨.O, ?_, rfl⟩
        rcases h with rfl | rfl | rfl <;> rfl
      · refine ⟨.O, ?_, rfl⟩
        rcases h with rfl | rfl | rfl <;> rfl
def Nxt.md (m : Mode) : Nxt → Prop
  | .go r => r.md m
  | .again s e => Res.md m (s, e)
theorem md_settA {s : Sta} {m : Mode} (h : Md s.p m) (hk : s.p.kd.isSome = true) : (settA s).md m := ⟨m, md_evs h hk s.pd, h⟩
theorem md_ref {s : Sta} {c : Nat} {m : Mode} (h : Md s.p m) (hk : s.p.kd.isSome = true) : (stRef s c).md m := by
  unfold stRef
  split
  · exact ⟨m, md_evs h hk _, h⟩
  · split
    · exact ⟨m, rfl, h⟩
    · exact md_settA h hk
theorem md_stp1 {s : Sta} {c : Nat} {m : Mode} (h : Md s.p m) : (stp1 s c).md m := by
  unfold stp1
  cases hp : s.p with
  | text =>
    have hm : m = .O := by rw [hp] at h; exact h
    have hk : s.p.kd.isSome = true := by rw [hp]; rfl
    subst hm
    show (stText s c).md .O
    unfold stText
    split
    · exact md_ref h hk
    split
    · exact ⟨.O, rfl, rfl⟩
    split
    · exact ⟨.O, rfl, h⟩
    split
    · exact ⟨.T, rfl, rfl⟩
    split
    · exact ⟨.T, rfl, rfl⟩
    split
    · exact ⟨.O, rfl, rfl⟩
    split
    · exact ⟨.C, rfl, rfl⟩
    · exact md_settA h hk
  | tag =>
    have hm : m = .T := by rw [hp] at h; exact h
    subst hm
    show Res.md .T (stTag s c)
    unfold stTag
    split
    · exact ⟨.T, rfl, rfl⟩
    · exact md_gap rfl (.inl rfl)
  | gap => exact md_gap hp (by rw [hp] at h; exact h)
  | name =>
    have hm : m = .N := by rw [hp] at h; exact h
    subst hm
    show Res.md .N (stName s c)
    unfold stName
    split
    · exact md_gap rfl (.inr (.inl rfl))
    · split
      · exact ⟨.N, rfl, rfl⟩
      · exact ⟨.N, rfl, h⟩
  | equals =>
    have hm : m = .N := by rw [hp] at h; exact h
    subst hm
    show (stEq s c).md .N
    unfold stEq
    split
    · exact ⟨.V, rfl, rfl⟩
    split
    · exact ⟨.V, rfl, rfl⟩
    split
    · exact md_gap rfl (.inr (.inl rfl))
    · exact ⟨.V, rfl, rfl⟩
  | comment =>
    have hm : m = .C := by rw [hp] at h; exact h
    have hk : s.p.kd.isSome = true := by rw [hp]; rfl
    subst hm
    show (stCom s c).md .C
    unfold stCom
    split
    · exact ⟨.O, rfl, rfl⟩
    split
    · exact ⟨.C, rfl, h⟩
    split
    · exact ⟨.C, rfl, rfl⟩
    split
    · exact md_settA h hk
    · exact ⟨.C, rfl, h⟩
  | raw =>
    have hm : m = .O := by rw [hp] at h; exact h
    have hk : s.p.kd.isSome = true := by rw [hp]; rfl
    subst hm
    show (stRaw s c).md .O
    unfold stRaw
    split
    · refine ⟨.T, ?_, .inl rfl⟩
      show moS .T (evs .name s.el) = some .T
      generalize s.el = t
      induction t with
      | nil => rfl
      | cons c t ih => exact ih
    split
    · exact ⟨.O, rfl, rfl⟩
    split
    · exact md_settA h hk
    · exact ⟨.O, rfl, h⟩
  | bare =>
    have hm : m = .V := by rw [hp] at h; exact h
    have hk : s.p.kd.isSome = true := by rw [hp]; rfl
    subst hm
    show (stVal s c).md .V
    unfold stVal
    split
    · exact md_ref h hk
    split
    · exact ⟨.V, rfl, by rw [hp]; rfl⟩
    split
    · exact md_gap rfl (.inr (.inr rfl))
    split
    · exact ⟨.V, rfl, .inr (.inr rfl)⟩
    · exact ⟨.V, rfl, h⟩
  | double =>
    have hm : m = .V := by rw [hp] at h; exact h
    have hk : s.p.kd.isSome = true := by rw [hp]; rfl
    subst hm
    show (stVal s c).md .V
    unfold stVal
    split
    · exact md_ref h hk
    split
    · exact ⟨.V, rfl, by rw [hp]; rfl⟩
    split
    · exact md_gap rfl (.inr (.inr rfl))
    split
    · exact ⟨.V, rfl, .inr (.inr rfl)⟩
    · exact ⟨.V, rfl, h⟩
  | single =>
    have hm : m = .V := by rw [hp] at h; exact h
    have hk : s.p.kd.isSome = true := by rw [hp]; rfl
    subst hm
    show (stVal s c).md .V
    unfold stVal
    split
    · exact md_ref h hk
    split
    · exact ⟨.V, rfl, by rw [hp]; rfl⟩
    split
    · exact md_gap rfl (.inr (.inr rfl))
    split
    · exact ⟨.V, rfl, .inr (.inr rfl)⟩
    · exact ⟨.V, rfl, h⟩
theorem md_stpG {s : Sta} {c : Nat} {m : Mode} (h : Md s.p m) : (stpG s c).md m := by
  have z := md_stp1 (c := c) h
  unfold stpG
  cases e : stp1 s c with
  | go r => rw [e] at z; exact z
  | again s' e => exact ⟨m, rfl, h⟩
theorem md_stp {s : Sta} {c : Nat} {m : Mode} (h : Md s.p m) : (stp s c).md m := by
  have z := md_stp1 (c := c) h
  unfold stp
  cases e : stp1 s c with
  | go r => rw [e] at z; exact z
  | again s' e' =>
    rw [e] at z
    obtain ⟨m1, h1, h2⟩ := z
    obtain ⟨m2, h3, h4⟩ := md_stpG (c := c) h2
    exact ⟨m2, by show moS m (e' ++ _) = _; rw [moS_app, show moS m e' = some m1 from h1]; exact h3, h4⟩
theorem md_mk {s : Sta} {n : Nat} {m : Mode} (h : Md s.p m) : (mkStp s n).md m := by
  unfold mkStp
  split
  · rename_i hk
    refine ⟨m, ?_, h⟩
    show moS m (pendE s ++ _) = _
    rw [moS_app, show moS m (pendE s) = some m from md_evs h hk s.pd]
    show (match mo m (s.p.kd!, .mk n) with | some m' => moS m' [] | none => none) = some m
    rw [md_kd h hk (.mk n) rfl]
    rfl
  split
  · rename_i hp
    have hm : m = .N := by rw [hp] at h; exact h
    subst hm
    exact ⟨.V, rfl, rfl⟩
  split
  · rename_i hp
    have hm : m = .T := by rw [hp] at h; exact h
    subst hm
    exact ⟨.T, rfl, rfl⟩
  split
  · rename_i hp
    have hm : m = .T ∨ m = .N ∨ m = .V := by rw [hp] at h; exact h
    refine ⟨.N, ?_, rfl⟩
    rcases hm with rfl | rfl | rfl <;> rfl
  · rename_i h1 h2 h3 h4
    obtain ⟨p, el, pd⟩ := s
    cases p <;> first | (exact absurd rfl h1) | (exact absurd rfl h2) | (exact absurd rfl h3) | (exact absurd rfl h4) | skip
    have hm : m = .N := h
    subst hm
    exact ⟨.N, rfl, rfl⟩
theorem md_it {s : Sta} {i : Itm} {m : Mode} (h : Md s.p m) : (itStp s i).md m := by
  cases i with
  | ch c => exact md_stp h
  | mk n => exact md_mk h
theorem md_run : ∀ (r : List Itm) {s : Sta} {m : Mode}, Md s.p m → (runR s r).md m
  | [], s, m, h => ⟨m, rfl, h⟩
  | i :: r, s, m, h => by
    obtain ⟨m1, h1, h2⟩ := md_it (i := i) h
    obtain ⟨m2, h3, h4⟩ := md_run r h2
    exact ⟨m2, by show moS m ((itStp s i).2 ++ _) = _; rw [moS_app, h1]; exact h3, h4⟩
theorem md_fin {s : Sta} {m : Mode} (h : Md s.p m) : moS m (finE s) = some .O := by
  unfold finE
  rw [moS_app]
  have h1 : moS m (if s.p.kd.isSome then pendE s else []) = some m := by
    split
    · rename_i hk; exact md_evs h hk s.pd
    · rfl
  rw [h1]
  show moS m (if s.p = .text ∨ s.p = .raw then [] else [(.close, .tx [])]) = some .O
  obtain ⟨p, el, pd⟩ := s
  cases p <;> simp only [Md] at h
  case gap => rcases h with rfl | rfl | rfl <;> rfl
  all_goals (subst h; rfl)
theorem md_evR (r : List Itm) {s : Sta} {m : Mode} (h : Md s.p m) : moS m (evR s r) = some .O := by
  obtain ⟨m1, h1, h2⟩ := md_run r h
  unfold evR
  rw [moS_app, h1]
  exact md_fin h2
theorem md_all (r : List Itm) : moS .O (evR start r) = some .O := md_evR r rfl
end K49

set_option Elab.async false
set_option linter.all false
set_option maxRecDepth 100000
/-! K49Un: the events back from the tokens. -/
namespace K49
def nmE : List Item → List Evt
  | [] => []
  | i :: r => (.attr, i) :: r.map fun j => (.name, j)
def vlE : Option (List Item) → List Evt
  | none => []
  | some v => (.value, .tx []) :: v.map fun j => (.value, j)
def unbP (q : List Item × Option (List Item)) : List Evt := nmE q.1 ++ vlE q.2
def unbX (t : Tok) : List Evt :=
  match t.k with
  | .text => t.its.map fun j => (.text, j)
  | .raw => t.its.map fun j => (.raw, j)
  | .tag => (.tag, .tx []) :: (t.its.map (fun j => (.name, j)) ++ t.prs.flatMap unbP)
  | .fin => (.fin, .tx []) :: (t.its.map (fun j => (.name, j)) ++ t.prs.flatMap unbP)
  | .comment => (.comment, .tx []) :: t.its.map fun j => (.comment, j)
  | _ => []
def clo (t : Tok) : List Evt := if t.k = .text ∨ t.k = .raw then [] else [(.close, .tx [])]
def unbT (t : Tok) : List Evt := unbX t ++ clo t
def unb (ts : List Tok) : List Evt := ts.flatMap unbT
theorem unb_snoc (ts : List Tok) (t : Tok) : unb (ts ++ [t]) = unb ts ++ unbT t := by unfold unb; simp [List.flatMap_append]
theorem nmE_snoc {n : List Item} (h : n ≠ []) (i : Item) : nmE (n ++ [i]) = nmE n ++ [(.name, i)] := by
  cases n with
  | nil => exact absurd rfl h
  | cons a r => simp [nmE]
structure TW (t : Tok) : Prop where
  it : ∀ i ∈ t.its, sg i = true
  pr : ∀ q ∈ t.prs, q.1 ≠ [] ∧ (∀ i ∈ q.1, sg i = true) ∧ ∀ v, q.2 = some v → ∀ i ∈ v, sg i = true
  tr : t.k = .text ∨ t.k = .raw → t.its ≠ [] ∧ t.prs = []
  co : t.k = .comment → t.prs = []
  kk : t.k = .text ∨ t.k = .raw ∨ t.k = .tag ∨ t.k = .fin ∨ t.k = .comment
def TF (t : Tok) : Prop := t.k = .tag ∨ t.k = .fin
def Shp : Mode → Tok → Prop
  | .O, _ => False
  | .T, t => t.prs = [] ∧ TF t
  | .N, t => ∃ ps n, t.prs = ps ++ [(n, none)] ∧ n ≠ [] ∧ TF t
  | .V, t => ∃ ps n v, t.prs = ps ++ [(n, some v)] ∧ n ≠ [] ∧ TF t
  | .C, t => t.k = .comment ∧ t.prs = []
structure Wf (m : Mode) (es : List Evt) (ts : List Tok) : Prop where
  tw : ∀ t ∈ ts, TW t
  eq : (m = .O ∧ unb ts = es) ∨ ∃ init t, ts = init ++ [t] ∧ unb init ++ unbX t = es ∧ Shp m t
theorem tf_X {t : Tok} (h : TF t) : unbX t = (t.k, .tx []) :: (t.its.map (fun j => (Kd.name, j)) ++ t.prs.flatMap unbP) := by
  obtain ⟨k, its, prs⟩ := t
  rcases h with h | h <;> (have h : k = _ := h; subst h; rfl)
theorem Wf.close {m : Mode} {es : List Evt} {init : List Tok} {t : Tok} (w : Wf m es (init ++ [t])) (e : unb init ++ unbX t = es) (hk : ¬ (t.k = .text ∨ t.k = .raw)) : Wf .O (es ++ [(.close, .tx [])]) (init ++ [t]) :=
  ⟨w.tw, .inl ⟨rfl, by rw [unb_snoc, ← e, List.append_assoc]; unfold unbT clo; rw [if_neg hk]⟩⟩
theorem tf_no {t : Tok} (h : TF t) : ¬ (t.k = .text ∨ t.k = .raw) := fun z => by
  rcases h with h | h <;> rw [h] at z <;> simp at z
theorem tw_last {init : List Tok} {t u : Tok} (w : ∀ t ∈ init ++ [u], TW t) (h : TW t) : ∀ x ∈ init ++ [t], TW x := fun x hx => by
  rcases List.mem_append.mp hx with z | z
  · exact w x (List.mem_append_left _ z)
  · rw [List.mem_singleton.mp z]; exact h
theorem tw_more {ts : List Tok} {t : Tok} (w : ∀ t ∈ ts, TW t) (h : TW t) : ∀ x ∈ ts ++ [t], TW x := fun x hx => by
  rcases List.mem_append.mp hx with z | z
  · exact w x z
  · rw [List.mem_singleton.mp z]; exact h
theorem sg_all {l : List Item} {i : Item} (h : ∀ j ∈ l, sg j = true) (hi : sg i = true) : ∀ j ∈ l ++ [i], sg j = true := fun j hj => by
  rcases List.mem_append.mp hj with z | z
  · exact h j z
  · rw [List.mem_singleton.mp z]; exact hi
theorem sg_ne {i : Item} (h : sg i = true) : i ≠ .tx [] := fun z => by rw [z] at h; cases h
theorem new_tw {k : Kd} (h : k = .tag ∨ k = .fin ∨ k = .comment) : TW ⟨k, [], []⟩ :=
  ⟨fun i hi => (by cases hi), fun q hq => (by cases hq), fun z => (by rcases h with rfl | rfl | rfl <;> simp at z), fun _ => rfl, by rcases h with rfl | rfl | rfl <;> simp⟩
/-- text and raw -/
theorem Wf.add {es : List Evt} {ts : List Tok} {k : Kd} {i : Item} (w : ∀ t ∈ ts, TW t) (e : unb ts = es) (hk : k = .text ∨ k = .raw) (hi : sg i = true) : Wf .O (es ++ [(k, i)]) (take ts (k, i)) := by
  rw [take_tr hk]
  split
  · rename_i hl
    rcases List.eq_nil_or_concat ts with rfl | ⟨init, t, rfl⟩
    · cases hl
    · rw [List.concat_eq_append] at hl w e ⊢
      rw [List.getLast?_concat, Option.map_some] at hl
      injection hl with hl
      have wt := w t (by simp)
      obtain ⟨kt, its, prs⟩ := t
      have hl : kt = k := hl
      subst hl
      obtain ⟨h1, h2⟩ := wt.tr hk
      have h2 : prs = [] := h2
      subst h2
      rw [lastM_snoc]
      have ea : (⟨kt, its, []⟩ : Tok).add i = ⟨kt, its ++ [i], []⟩ := rfl
      rw [ea]
      refine ⟨tw_last w ⟨sg_all wt.it hi, wt.pr, fun _ => ⟨by simp, rfl⟩, wt.co, wt.kk⟩, .inl ⟨rfl, ?_⟩⟩
      rw [unb_snoc] at e ⊢
      rw [← e, List.append_assoc]
      congr 1
      rcases hk with rfl | rfl <;> simp [unbT, unbX, clo]
  · refine ⟨tw_more w ⟨fun j hj => (by rw [List.mem_singleton.mp hj]; exact hi), fun q hq => (by cases hq), fun _ => ⟨by simp, rfl⟩, fun _ => rfl, by rcases hk with rfl | rfl <;> simp⟩, .inl ⟨rfl, ?_⟩⟩
    rw [unb_snoc, e]
    congr 1
    rcases hk with rfl | rfl <;> simp [unbT, unbX, clo]
theorem Wf.new {es : List Evt} {ts : List Tok} {k : Kd} {m : Mode} (w : ∀ t ∈ ts, TW t) (e : unb ts = es) (hk : k = .tag ∨ k = .fin ∨ k = .comment) (hs : Shp m ⟨k, [], []⟩) : Wf m (es ++ [(k, .tx [])]) (ts ++ [⟨k, [], []⟩]) := by
  refine ⟨tw_more w (new_tw hk), .inr ⟨ts, _, rfl, ?_, hs⟩⟩
  rw [e]
  rcases hk with rfl | rfl | rfl <;> simp [unbX]
theorem Wf.attr {m : Mode} {es : List Evt} {init : List Tok} {t : Tok} {i : Item} (w : ∀ x ∈ init ++ [t], TW x) (e : unb init ++ unbX t = es) (hf : TF t) (hi : sg i = true) : Wf .N (es ++ [(.attr, i)]) (take (init ++ [t]) (.attr, i)) := by
  have et : take (init ++ [t]) (.attr, i) = init ++ [t.attr i] := lastM_snoc _ _ _
  have wt := w t (by simp)
  rw [et]
  refine ⟨tw_last w ⟨wt.it, fun q hq => ?_, fun z => absurd z (tf_no hf), fun z => ?_, wt.kk⟩, .inr ⟨init, _, rfl, ?_, t.prs, [i], rfl, by simp, hf⟩⟩
  · rcases List.mem_append.mp hq with z | z
    · exact wt.pr q z
    · rw [List.mem_singleton.mp z]
      exact ⟨by simp, fun j hj => (by rw [List.mem_singleton.mp hj]; exact hi), fun v hv => (by cases hv)⟩
  · have z : t.k = .comment := z
    rcases hf with y | y <;> rw [y] at z <;> cases z
  · rw [← e, List.append_assoc, tf_X hf, tf_X (t := t.attr i) hf]
    simp [Tok.attr, unbP, nmE, vlE]
theorem Wf.take {m m' : Mode} {es : List Evt} {ts : List Tok} {e : Evt} (w : Wf m es ts) (h : mo m e = some m') : Wf m' (es ++ [e]) (take ts e) ∧ Pre ts e := by
  obtain ⟨k, i⟩ := e
  rcases w.eq with ⟨rfl, eu⟩ | ⟨init, t, rfl, eu, hs⟩
  · cases k <;> simp only [mo] at h <;> try (cases h; done)
    · split at h
      · cases h; rename_i hi; exact ⟨Wf.add w.tw eu (.inl rfl) hi, trivial⟩
      · cases h
    · split at h
      · cases h; rename_i hi; subst hi; exact ⟨Wf.new w.tw eu (.inr (.inr rfl)) ⟨rfl, rfl⟩, .inl rfl⟩
      · cases h
    · split at h
      · cases h; rename_i hi; exact ⟨Wf.add w.tw eu (.inr rfl) hi, trivial⟩
      · cases h
    · split at h
      · cases h; rename_i hi; subst hi; exact ⟨Wf.new w.tw eu (.inl rfl) ⟨rfl, .inl rfl⟩, trivial⟩
      · cases h
    · split at h
      · cases h; rename_i hi; subst hi; exact ⟨Wf.new w.tw eu (.inr (.inl rfl)) ⟨rfl, .inr rfl⟩, trivial⟩
      · cases h
  · have hne : init ++ [t] ≠ [] := by simp
    have wt := w.tw t (by simp)
    cases m with
    | O => exact hs.elim
    | T =>
      obtain ⟨hp, hf⟩ := hs
      cases k <;> simp only [mo] at h <;> try (cases h; done)
      · split at h
        · cases h; rename_i hi
          refine ⟨?_, hne⟩
          have et : K49.take (init ++ [t]) (.name, i) = init ++ [t.add i] := lastM_snoc _ _ _
          obtain ⟨k, its, prs⟩ := t
          have hp : prs = [] := hp
          subst hp
          rw [et]
          have ea : (⟨k, its, []⟩ : Tok).add i = ⟨k, its ++ [i], []⟩ := rfl
          rw [ea]
          refine ⟨tw_last w.tw ⟨sg_all wt.it hi, wt.pr, fun z => absurd z (tf_no hf), wt.co, wt.kk⟩, .inr ⟨init, _, rfl, ?_, rfl, hf⟩⟩
          rw [← eu, List.append_assoc, tf_X hf, tf_X (t := ⟨k, its ++ [i], []⟩) hf]
          simp
        · cases h
      · split at h
        · cases h; rename_i hi; exact ⟨Wf.attr (m := .T) w.tw eu hf hi, hne⟩
        · cases h
      · split at h
        · cases h; rename_i hi; subst hi; exact ⟨w.close eu (tf_no hf), trivial⟩
        · cases h
    | N =>
      obtain ⟨ps, n, hp, hn, hf⟩ := hs
      cases k <;> simp only [mo] at h <;> try (cases h; done)
      · split at h
        · cases h; rename_i hi; subst hi
          obtain ⟨k, its, prs⟩ := t
          have hp : prs = ps ++ [(n, none)] := hp
          subst hp
          refine ⟨?_, init, _, ps, n, none, rfl, rfl, .inl rfl⟩
          have et : K49.take (init ++ [⟨k, its, ps ++ [(n, none)]⟩]) (.value, .tx []) = init ++ [(⟨k, its, ps ++ [(n, none)]⟩ : Tok).value (.tx [])] := lastM_snoc _ _ _
          rw [et, val_last, if_pos rfl]
          refine ⟨tw_last w.tw ⟨wt.it, fun q hq => ?_, fun z => absurd z (tf_no hf), fun z => ?_, wt.kk⟩, .inr ⟨init, _, rfl, ?_, ps, n, [], rfl, hn, hf⟩⟩
          · rcases List.mem_append.mp hq with z | z
            · exact wt.pr q (List.mem_append_left _ z)
            · rw [List.mem_singleton.mp z]
              have y := wt.pr (n, none) (List.mem_append_right _ (List.mem_singleton.mpr rfl))
              exact ⟨y.1, y.2.1, fun v hv j hj => (by cases hv; cases hj)⟩
          · have z : k = .comment := z
            rcases hf with y | y <;> (have y : k = _ := y; rw [y] at z; cases z)
          · rw [← eu, List.append_assoc, tf_X hf, tf_X (t := ⟨k, its, ps ++ [(n, some [])]⟩) hf]
            simp [unbP, vlE]
        · cases h
      · split at h
        · cases h; rename_i hi
          refine ⟨?_, hne⟩
          obtain ⟨k, its, prs⟩ := t
          have hp : prs = ps ++ [(n, none)] := hp
          subst hp
          have et : K49.take (init ++ [⟨k, its, ps ++ [(n, none)]⟩]) (.name, i) = init ++ [(⟨k, its, ps ++ [(n, none)]⟩ : Tok).add i] := lastM_snoc _ _ _
          have ea : (⟨k, its, ps ++ [(n, none)]⟩ : Tok).add i = ⟨k, its, ps ++ [(n ++ [i], none)]⟩ := by unfold Tok.add; simp
          rw [et, ea]
          refine ⟨tw_last w.tw ⟨wt.it, fun q hq => ?_, fun z => absurd z (tf_no hf), fun z => ?_, wt.kk⟩, .inr ⟨init, _, rfl, ?_, ps, n ++ [i], rfl, by simp, hf⟩⟩
          · rcases List.mem_append.mp hq with z | z
            · exact wt.pr q (List.mem_append_left _ z)
            · rw [List.mem_singleton.mp z]
              have y := wt.pr (n, none) (List.mem_append_right _ (List.mem_singleton.mpr rfl))
              exact ⟨by simp, sg_all y.2.1 hi, fun v hv j hj => (by cases hv)⟩
          · have z : k = .comment := z
            rcases hf with y | y <;> (have y : k = _ := y; rw [y] at z; cases z)
          · rw [← eu, List.append_assoc, tf_X hf, tf_X (t := ⟨k, its, ps ++ [(n ++ [i], none)]⟩) hf]
            simp [unbP, vlE, nmE_snoc hn]
        · cases h
      · split at h
        · cases h; rename_i hi; exact ⟨Wf.attr (m := .N) w.tw eu hf hi, hne⟩
        · cases h
      · split at h
        · cases h; rename_i hi; subst hi; exact ⟨w.close eu (tf_no hf), trivial⟩
        · cases h
    | V =>
      obtain ⟨ps, n, v, hp, hn, hf⟩ := hs
      cases k <;> simp only [mo] at h <;> try (cases h; done)
      · split at h
        · cases h; rename_i hi
          obtain ⟨k, its, prs⟩ := t
          have hp : prs = ps ++ [(n, some v)] := hp
          subst hp
          refine ⟨?_, init, _, ps, n, some v, rfl, rfl, .inr rfl⟩
          have et : K49.take (init ++ [⟨k, its, ps ++ [(n, some v)]⟩]) (.value, i) = init ++ [(⟨k, its, ps ++ [(n, some v)]⟩ : Tok).value i] := lastM_snoc _ _ _
          rw [et, val_last, if_neg (sg_ne hi)]
          refine ⟨tw_last w.tw ⟨wt.it, fun q hq => ?_, fun z => absurd z (tf_no hf), fun z => ?_, wt.kk⟩, .inr ⟨init, _, rfl, ?_, ps, n, v ++ [i], rfl, hn, hf⟩⟩
          · rcases List.mem_append.mp hq with z | z
            · exact wt.pr q (List.mem_append_left _ z)
            · rw [List.mem_singleton.mp z]
              have y := wt.pr (n, some v) (List.mem_append_right _ (List.mem_singleton.mpr rfl))
              exact ⟨y.1, y.2.1, fun u hu => (by cases hu; exact sg_all (y.2.2 v rfl) hi)⟩
          · have z : k = .comment := z
            rcases hf with y | y <;> (have y : k = _ := y; rw [y] at z; cases z)
          · rw [← eu, List.append_assoc, tf_X hf, tf_X (t := ⟨k, its, ps ++ [(n, some ((some v).getD [] ++ [i]))]⟩) hf]
            simp [unbP, vlE]
        · cases h
      · split at h
        · cases h; rename_i hi; exact ⟨Wf.attr (m := .V) w.tw eu hf hi, hne⟩
        · cases h
      · split at h
        · cases h; rename_i hi; subst hi; exact ⟨w.close eu (tf_no hf), trivial⟩
        · cases h
    | C =>
      obtain ⟨hk, hp⟩ := hs
      cases k <;> simp only [mo] at h <;> try (cases h; done)
      · split at h
        · cases h; rename_i hi
          obtain ⟨k, its, prs⟩ := t
          have hp : prs = [] := hp
          have hk : k = .comment := hk
          subst hp hk
          refine ⟨?_, .inr hne⟩
          have et : K49.take (init ++ [⟨.comment, its, []⟩]) (.comment, i) = init ++ [(⟨.comment, its, []⟩ : Tok).add i] := by
            show (if i = .tx [] then _ else _) = _
            rw [if_neg (sg_ne hi)]; exact lastM_snoc _ _ _
          have ea : (⟨.comment, its, []⟩ : Tok).add i = ⟨.comment, its ++ [i], []⟩ := rfl
          rw [et, ea]
          refine ⟨tw_last w.tw ⟨sg_all wt.it hi, wt.pr, fun z => by simp at z, fun _ => rfl, wt.kk⟩, .inr ⟨init, _, rfl, ?_, rfl, rfl⟩⟩
          rw [← eu, List.append_assoc]
          simp [unbX]
        · cases h
      · split at h
        · cases h; rename_i hi; subst hi; exact ⟨w.close eu (by rw [hk]; simp), trivial⟩
        · cases h
/-- along a whole stream -/
theorem wf_build : ∀ (fs es : List Evt) (m m' : Mode) (ts : List Tok), Wf m es ts → moS m fs = some m' → Wf m' (es ++ fs) (fs.foldl take ts) ∧ ∀ j e, fs[j]? = some e → Pre ((fs.take j).foldl take ts) e
  | [], es, m, m', ts, w, h => by
    cases h
    exact ⟨by rw [List.append_nil]; exact w, fun j e z => by simp at z⟩
  | e :: fs, es, m, m', ts, w, h => by
    have h : (match mo m e with | some m1 => moS m1 fs | none => none) = some m' := h
    cases q : mo m e with
    | none => rw [q] at h; cases h
    | some m1 =>
      rw [q] at h
      obtain ⟨w1, p1⟩ := w.take q
      obtain ⟨w2, p2⟩ := wf_build fs (es ++ [e]) m1 m' _ w1 h
      refine ⟨by rw [List.append_assoc] at w2; exact w2, fun j d z => ?_⟩
      cases j with
      | zero => simp at z; subst z; exact p1
      | succ j => exact p2 j d (by simpa using z)
theorem wf_all {es : List Evt} (h : moS .O es = some .O) : (∀ t ∈ build es, TW t) ∧ unb (build es) = es ∧ PreAll es := by
  obtain ⟨w, p⟩ := wf_build es [] .O .O [] ⟨fun t ht => (by cases ht), .inl ⟨rfl, rfl⟩⟩ h
  refine ⟨w.tw, ?_, p⟩
  rcases w.eq with ⟨_, z⟩ | ⟨_, _, _, _, z⟩
  · exact z
  · exact z.elim
end K49

set_option Elab.async false
set_option linter.all false
set_option maxRecDepth 100000
/-! K49Rk: filling goes with building; tokens of signs give their events back. -/
namespace K49
structure STok where
  k : Kd
  s : Tx
  prs : List (Tx × Option Tx)
def ft (X : List Tx) (t : Tok) : STok := ⟨t.k, joinT X t.its, t.prs.map (flPair X)⟩
def STok.add (t : STok) (s : Tx) : STok :=
  match t.prs.getLast? with
  | some q => { t with prs := t.prs.dropLast ++ [(q.1 ++ s, q.2)] }
  | none => { t with s := t.s ++ s }
def STok.attr (t : STok) (s : Tx) : STok := { t with prs := t.prs ++ [(s, none)] }
def STok.value (t : STok) (s : Tx) : STok :=
  match t.prs.getLast? with
  | some q => { t with prs := t.prs.dropLast ++ [(q.1, if s = [] then some [] else some (q.2.getD [] ++ s))] }
  | none => t
def lastS (f : STok → STok) (ts : List STok) : List STok :=
  match ts.getLast? with
  | some t => ts.dropLast ++ [f t]
  | none => ts
def takeS (ts : List STok) (e : Kd × Tx) : List STok :=
  match e.1 with
  | .text => if (ts.getLast?.map (·.k)) = some .text then lastS (·.add e.2) ts else ts ++ [⟨.text, e.2, []⟩]
  | .raw => if (ts.getLast?.map (·.k)) = some .raw then lastS (·.add e.2) ts else ts ++ [⟨.raw, e.2, []⟩]
  | .tag => ts ++ [⟨.tag, [], []⟩]
  | .fin => ts ++ [⟨.fin, [], []⟩]
  | .comment => if e.2 = [] then ts ++ [⟨.comment, [], []⟩] else lastS (·.add e.2) ts
  | .name => lastS (·.add e.2) ts
  | .attr => lastS (·.attr e.2) ts
  | .value => lastS (·.value e.2) ts
  | .close => ts
section
variable {X : List Tx}
theorem joinT_snoc (l : List Item) (i : Item) : joinT X (l ++ [i]) = joinT X l ++ itT X i := by unfold joinT; simp
theorem lastS_snoc (f : STok → STok) (ts : List STok) (t : STok) : lastS f (ts ++ [t]) = ts ++ [f t] := by unfold lastS; simp
theorem ft_add (t : Tok) (i : Item) : ft X (t.add i) = (ft X t).add (itT X i) := by
  obtain ⟨k, its, prs⟩ := t
  rcases List.eq_nil_or_concat prs with rfl | ⟨ps, q, rfl⟩
  · simp [ft, Tok.add, STok.add, joinT_snoc]
  · simp [ft, Tok.add, STok.add, joinT_snoc, flPair]
theorem ft_attr (t : Tok) (i : Item) : ft X (t.attr i) = (ft X t).attr (itT X i) := by
  simp [ft, Tok.attr, STok.attr, flPair, joinT]
theorem ft_value (t : Tok) (i : Item) (h : itT X i = [] ↔ i = .tx []) : ft X (t.value i) = (ft X t).value (itT X i) := by
  obtain ⟨k, its, prs⟩ := t
  rcases List.eq_nil_or_concat prs with rfl | ⟨ps, q, rfl⟩
  · simp [ft, Tok.value, STok.value]
  · rw [List.concat_eq_append]
    have e1 := val_last k its ps q.1 q.2 i
    have eq : (q.1, q.2) = q := rfl
    rw [eq] at e1
    rw [e1]
    by_cases hi : i = .tx []
    · rw [if_pos hi]
      have := h.mpr hi
      simp [ft, STok.value, flPair, this, joinT]
    · rw [if_neg hi]
      have hn : ¬ itT X i = [] := fun z => hi (h.mp z)
      have e2 : joinT X (q.2.getD [] ++ [i]) = (Option.map (joinT X) q.2).getD [] ++ itT X i := by
        rw [joinT_snoc]
        cases q.2 <;> rfl
      simp [ft, STok.value, flPair, hn, e2]
theorem ft_last (f : Tok → Tok) (g : STok → STok) (h : ∀ t, ft X (f t) = g (ft X t)) (ts : List Tok) : (lastM f ts).map (ft X) = lastS g (ts.map (ft X)) := by
  rcases List.eq_nil_or_concat ts with rfl | ⟨init, t, rfl⟩
  · rfl
  · rw [List.concat_eq_append, lastM_snoc, List.map_append, List.map_append, List.map_singleton, List.map_singleton, lastS_snoc, h]
theorem ft_kind (ts : List Tok) : (ts.map (ft X)).getLast?.map (·.k) = ts.getLast?.map (·.k) := by
  rw [List.getLast?_map, Option.map_map]; rfl
theorem take_ft (ts : List Tok) (e : Evt) (h : itT X e.2 = [] ↔ e.2 = .tx []) : (take ts e).map (ft X) = takeS (ts.map (ft X)) (e.1, itT X e.2) := by
  obtain ⟨k, i⟩ := e
  have hA : (lastM (·.add i) ts).map (ft X) = lastS (·.add (itT X i)) (ts.map (ft X)) := ft_last _ _ (fun t => ft_add t i) ts
  have one : joinT X [i] = itT X i := by unfold joinT; simp
  cases k with
  | text =>
    rw [take_tr (.inl rfl)]
    show _ = if ((ts.map (ft X)).getLast?.map (·.k)) = some .text then _ else _
    rw [ft_kind]
    split
    · exact hA
    · rw [List.map_append]
      show _ ++ [ft X ⟨.text, [i], []⟩] = _
      simp [ft, one]
  | raw =>
    rw [take_tr (.inr rfl)]
    show _ = if ((ts.map (ft X)).getLast?.map (·.k)) = some .raw then _ else _
    rw [ft_kind]
    split
    · exact hA
    · rw [List.map_append]
      show _ ++ [ft X ⟨.raw, [i], []⟩] = _
      simp [ft, one]
  | tag => simp [take, takeS, ft, joinT]
  | fin => simp [take, takeS, ft, joinT]
  | comment =>
    show (if i = .tx [] then _ else _ : List Tok).map (ft X) = if itT X i = [] then _ else _
    by_cases hi : i = .tx []
    · rw [if_pos hi, if_pos (h.mpr hi)]
      simp [ft, joinT]
    · rw [if_neg hi, if_neg (fun z => hi (h.mp z))]
      exact hA
  | name => exact hA
  | attr => exact ft_last _ _ (fun t => ft_attr t i) ts
  | value => exact ft_last _ _ (fun t => ft_value t i h) ts
  | close => rfl
def vl (X : List Tx) (e : Evt) : Kd × Tx := (e.1, itT X e.2)
theorem build_ft : ∀ (es : List Evt) (ts : List Tok), (∀ e ∈ es, itT X e.2 = [] ↔ e.2 = .tx []) → (es.foldl take ts).map (ft X) = (es.map (vl X)).foldl takeS (ts.map (ft X))
  | [], ts, _ => rfl
  | e :: es, ts, h => by
    rw [List.foldl_cons, List.map_cons, List.foldl_cons, build_ft es _ fun d hd => h d (List.mem_cons_of_mem _ hd), take_ft ts e (h e List.mem_cons_self)]
    rfl
end
theorem add_add (t : STok) (a b : Tx) : (t.add a).add b = t.add (a ++ b) := by
  obtain ⟨k, s, prs⟩ := t
  rcases List.eq_nil_or_concat prs with rfl | ⟨ps, q, rfl⟩
  · simp [STok.add]
  · simp [STok.add]
theorem add_k (t : STok) (a : Tx) : (t.add a).k = t.k := by
  unfold STok.add
  split <;> rfl
theorem value_value (t : STok) (a b : Tx) (ha : a ≠ []) (hb : b ≠ []) : (t.value a).value b = t.value (a ++ b) := by
  obtain ⟨k, s, prs⟩ := t
  rcases List.eq_nil_or_concat prs with rfl | ⟨ps, q, rfl⟩
  · simp [STok.value]
  · simp [STok.value, ha, hb]
theorem takeS_two {k : Kd} (hk : k = .text ∨ k = .value) (ts : List STok) (a b : Tx) (ha : a ≠ []) (hb : b ≠ []) : takeS (takeS ts (k, a)) (k, b) = takeS ts (k, a ++ b) := by
  rcases hk with rfl | rfl
  · show (if ((takeS ts (.text, a)).getLast?.map (·.k)) = some .text then lastS (·.add b) (takeS ts (.text, a)) else takeS ts (.text, a) ++ [⟨.text, b, []⟩]) = (if (ts.getLast?.map (·.k)) = some .text then lastS (·.add (a ++ b)) ts else ts ++ [⟨.text, a ++ b, []⟩])
    by_cases h : (ts.getLast?.map (·.k)) = some .text
    · have e : takeS ts (.text, a) = lastS (·.add a) ts := if_pos h
      rw [e, if_pos h]
      rcases List.eq_nil_or_concat ts with rfl | ⟨init, t, rfl⟩
      · cases h
      · rw [List.concat_eq_append] at h ⊢
        rw [lastS_snoc, lastS_snoc, lastS_snoc, List.getLast?_concat, Option.map_some, add_k]
        rw [List.getLast?_concat, Option.map_some] at h
        rw [if_pos h, add_add]
    · have e : takeS ts (.text, a) = ts ++ [⟨.text, a, []⟩] := if_neg h
      rw [e, if_neg h, List.getLast?_concat, Option.map_some, if_pos rfl, lastS_snoc]
      rfl
  · show lastS (·.value b) (lastS (·.value a) ts) = lastS (·.value (a ++ b)) ts
    rcases List.eq_nil_or_concat ts with rfl | ⟨init, t, rfl⟩
    · rfl
    · rw [List.concat_eq_append, lastS_snoc, lastS_snoc, lastS_snoc, value_value t a b ha hb]
theorem takeS_all {k : Kd} (hk : k = .text ∨ k = .value) : ∀ (T : Tx) (ts : List STok), T ≠ [] → (T.map fun c => (k, [c])).foldl takeS ts = takeS ts (k, T)
  | [], ts, h => absurd rfl h
  | [c], ts, _ => rfl
  | c :: d :: T, ts, _ => by
    have e : ((c :: d :: T).map fun c => (k, [c])).foldl takeS ts = ((d :: T).map fun c => (k, [c])).foldl takeS (takeS ts (k, [c])) := rfl
    rw [e, takeS_all hk (d :: T) _ (by simp), takeS_two hk ts [c] (d :: T) (by simp) (by simp)]
    rfl
/-- the mark's events: one for every sign of the text -/
def xp (T : Tx) (e : Evt) : List Evt := match e.2 with
  | .mk _ => T.map fun c => (e.1, .tx [c])
  | .tx _ => [e]
/-- marks stand in texts and values alone, the mark 0 -/
def MV (es : List Evt) : Prop := ∀ e ∈ es, ∀ n, e.2 = .mk n → n = 0 ∧ (e.1 = .text ∨ e.1 = .value)
theorem fold_xp {T : Tx} (hT : T ≠ []) : ∀ (es : List Evt) (ts : List STok), MV es → (es.map (vl [T])).foldl takeS ts = ((es.flatMap (xp T)).map (vl [])).foldl takeS ts
  | [], ts, _ => rfl
  | (k, i) :: es, ts, h => by
    rw [List.map_cons, List.foldl_cons, List.flatMap_cons, List.map_append, List.foldl_append, fold_xp hT es _ fun e he => h e (List.mem_cons_of_mem _ he)]
    congr 1
    cases i with
    | tx t => rfl
    | mk n =>
      obtain ⟨rfl, hk⟩ := h (k, .mk n) List.mem_cons_self n rfl
      show takeS ts (k, T) = ((T.map fun c => (k, Item.tx [c])).map (vl [])).foldl takeS ts
      rw [List.map_map]
      exact (takeS_all hk T ts hT).symm
def finS (t : STok) : FTok := ⟨t.k, t.s, if t.k = .tag ∨ t.k = .fin then some t.prs else none⟩
theorem joinT_piecF (X : List Tx) : ∀ (l : List Item) (s : Tx), joinT X (piecF s l) = s ++ joinT X l
  | [], s => by
    unfold piecF
    split
    · rename_i h; rw [h]; rfl
    · simp [joinT, itT]
  | .tx t :: l, s => by
    show joinT X (piecF (s ++ t) l) = _
    rw [joinT_piecF X l, List.append_assoc]
    simp [joinT, itT]
  | .mk n :: l, s => by
    show joinT X ((if s = [] then [] else [.tx s]) ++ (.mk n :: piecF [] l)) = _
    have z := joinT_piecF X l []
    unfold joinT at z ⊢
    rw [List.map_append, List.flatten_append, List.map_cons, List.flatten_cons, z]
    split
    · rename_i h; rw [h]; simp
    · simp [itT]
theorem joinT_piec (X : List Tx) (l : List Item) : joinT X (piec l) = joinT X l := joinT_piecF X l []
theorem flTok_ft (X : List Tx) (t : Tok) : flTok X (mkTok t) = finS (ft X t) := by
  unfold flTok mkTok finS ft
  simp only [joinT_piec]
  split
  · simp only [Option.map_some, List.map_map]
    congr 2
    refine List.map_congr_left fun q _ => ?_
    show flPair X (mkPair q) = flPair X q
    unfold flPair mkPair
    simp only [joinT_piec, Option.map_map]
    congr 1
    cases q.2 with
    | none => rfl
    | some v => exact congrArg some (joinT_piec X v)
  · rfl
theorem fills_ft (X : List Tx) (es : List Evt) : fills X (mkToks es) = (((build es).map (ft X)).map finS).filter (·.kept) := by
  unfold fills mkToks
  rw [List.map_map, List.map_map]
  congr 1
  exact List.map_congr_left fun t _ => flTok_ft X t
/-- filling a marked row is building with the signs -/
theorem fills_xp {T : Tx} (hT : T ≠ []) {es : List Evt} (hm : MV es) : fills [T] (mkToks es) = fills [] (mkToks (es.flatMap (xp T))) := by
  rw [fills_ft, fills_ft]
  have h1 : (build es).map (ft [T]) = (es.map (vl [T])).foldl takeS [] := build_ft es [] fun e he => by
    cases hi : e.2 with
    | tx t => simp [itT]
    | mk n =>
      obtain ⟨rfl, _⟩ := hm e he n hi
      simp [itT, hT]
  have h2 : (build (es.flatMap (xp T))).map (ft []) = ((es.flatMap (xp T)).map (vl [])).foldl takeS [] := build_ft _ [] fun e he => by
    obtain ⟨d, hd, h⟩ := List.mem_flatMap.mp he
    cases hi : d.2 with
    | tx t =>
      unfold xp at h
      rw [hi] at h
      rw [List.mem_singleton.mp h, hi]
      simp [itT]
    | mk n =>
      unfold xp at h
      rw [hi] at h
      obtain ⟨c, _, rfl⟩ := List.mem_map.mp h
      simp [itT]
  rw [h1, h2, fold_xp hT es [] hm]

/-! ### tokens of signs -/
/-- no marks -/
def CH (es : List Evt) : Prop := ∀ e ∈ es, ∀ n, e.2 ≠ .mk n
def one (i : Item) : Prop := ∃ c, i = .tx [c]
theorem one_of {i : Item} (h : sg i = true) (hm : ∀ n, i ≠ .mk n) : one i := by
  cases i with
  | tx t =>
    match t, h with
    | [c], _ => exact ⟨c, rfl⟩
  | mk n => exact absurd rfl (hm n)
def its1 (t : Tx) : List Item := t.map fun c => .tx [c]
theorem its1_of : ∀ {l : List Item}, (∀ i ∈ l, one i) → its1 (joinT [] l) = l
  | [], _ => rfl
  | i :: l, h => by
    obtain ⟨c, rfl⟩ := h i List.mem_cons_self
    have z := its1_of (l := l) fun j hj => h j (List.mem_cons_of_mem _ hj)
    unfold its1 joinT at z ⊢
    rw [List.map_cons, List.flatten_cons, List.map_append, z]
    rfl
theorem joinT_ne {l : List Item} (h : ∀ i ∈ l, one i) (hl : l ≠ []) : joinT [] l ≠ [] := fun z => by
  have e := its1_of h
  rw [z] at e
  exact hl e.symm
structure TC (t : Tok) : Prop where
  tw : TW t
  it : ∀ i ∈ t.its, one i
  pr : ∀ q ∈ t.prs, (∀ i ∈ q.1, one i) ∧ ∀ v, q.2 = some v → ∀ i ∈ v, one i
def backP (q : Tx × Option Tx) : List Item × Option (List Item) := (its1 q.1, q.2.map its1)
def backF (f : FTok) : Tok := ⟨f.k, its1 f.s, (f.ats.getD []).map backP⟩
theorem back_of {t : Tok} (h : TC t) : backF (finS (ft [] t)) = t ∧ (finS (ft [] t)).kept = true := by
  obtain ⟨k, its, prs⟩ := t
  have e1 : its1 (joinT [] its) = its := its1_of h.it
  have e2 : (prs.map (flPair [])).map backP = prs := by
    rw [List.map_map]
    have z : prs.map (backP ∘ flPair []) = prs.map id := List.map_congr_left fun q hq => by
      obtain ⟨h1, h2⟩ := h.pr q hq
      obtain ⟨n, v⟩ := q
      show (its1 (joinT [] n), (v.map (joinT [])).map its1) = (n, v)
      rw [its1_of h1]
      cases v with
      | none => rfl
      | some v => rw [Option.map_some, Option.map_some, its1_of (h2 v rfl)]
    rw [z, List.map_id]
  by_cases hk : k = .tag ∨ k = .fin
  · refine ⟨?_, ?_⟩
    · show (⟨k, its1 (joinT [] its), ((if k = .tag ∨ k = .fin then some (prs.map (flPair [])) else none).getD []).map backP⟩ : Tok) = _
      rw [if_pos hk, Option.getD_some, e1, e2]
    · simp [FTok.kept, finS, ft, hk]
  · have hp : prs = [] := by
      rcases h.tw.kk with z | z | z | z | z
      · exact (h.tw.tr (.inl z)).2
      · exact (h.tw.tr (.inr z)).2
      · exact absurd (.inl z) hk
      · exact absurd (.inr z) hk
      · exact h.tw.co z
    subst hp
    refine ⟨?_, ?_⟩
    · show (⟨k, its1 (joinT [] its), ((if k = .tag ∨ k = .fin then some (([] : List (List Item × Option (List Item))).map (flPair [])) else none).getD []).map backP⟩ : Tok) = _
      rw [if_neg hk, Option.getD_none, e1]
      rfl
    · rcases h.tw.kk with z | z | z | z | z
      · have y := joinT_ne h.it (h.tw.tr (.inl z)).1
        simp [FTok.kept, finS, ft, y]
      · have y := joinT_ne h.it (h.tw.tr (.inr z)).1
        simp [FTok.kept, finS, ft, y]
      · exact absurd (.inl z) hk
      · exact absurd (.inr z) hk
      · have z : k = .comment := z
        simp [FTok.kept, finS, ft, z]
theorem build_tc {es : List Evt} (h : moS .O es = some .O) (hc : CH es) : ∀ t ∈ build es, TC t := fun t ht => by
  have w := (wf_all h).1 t ht
  have b := TB.build (P := fun i => ∀ n, i ≠ .mk n) es hc es.length (Nat.le_refl _)
  rw [List.take_length] at b
  have bt := b.2 t ht
  refine ⟨w, fun i hi => one_of (w.it i hi) (bt.1 i hi), fun q hq => ⟨fun i hi => one_of ((w.pr q hq).2.1 i hi) ((bt.2.2.2 q hq).1 i hi), fun v hv i hi => one_of ((w.pr q hq).2.2 v hv i hi) (((bt.2.2.2 q hq).2.2 v hv).1 i hi)⟩⟩
theorem fills_back {es : List Evt} (h : moS .O es = some .O) (hc : CH es) : unb ((fills [] (mkToks es)).map backF) = es := by
  have tc := build_tc h hc
  rw [fills_ft]
  have e1 : (((build es).map (ft [])).map finS).filter (·.kept) = ((build es).map (ft [])).map finS := List.filter_eq_self.mpr fun f hf => by
    obtain ⟨s, hs, rfl⟩ := List.mem_map.mp hf
    obtain ⟨t, ht, rfl⟩ := List.mem_map.mp hs
    exact (back_of (tc t ht)).2
  rw [e1, List.map_map, List.map_map]
  have e2 : (build es).map ((backF ∘ finS) ∘ ft []) = (build es).map id := List.map_congr_left fun t ht => (back_of (tc t ht)).1
  have e3 : (build es).map (backF ∘ finS ∘ ft []) = build es := by
    have : (build es).map (backF ∘ finS ∘ ft []) = (build es).map id := List.map_congr_left fun t ht => (back_of (tc t ht)).1
    rw [this, List.map_id]
  first
    | rw [e3]; exact (wf_all h).2.1
    | (rw [e2, List.map_id]; exact (wf_all h).2.1)
/-- reading is telling events apart -/
theorem fills_inj {es fs : List Evt} (h1 : moS .O es = some .O) (c1 : CH es) (h2 : moS .O fs = some .O) (c2 : CH fs) (e : fills [] (mkToks es) = fills [] (mkToks fs)) : es = fs := by
  rw [← fills_back h1 c1, e, fills_back h2 c2]
end K49

set_option Elab.async false
set_option linter.all false
set_option maxRecDepth 100000
/-! K49Rf: what the reader hands the builder; read and read_row. -/
namespace K49
open PySem L2
/-! ### no marks from signs -/
def Nxt.ch : Nxt → Prop
  | .go r => CH r.2
  | .again _ e => CH e
theorem ch_nil : CH [] := fun e he => (by cases he)
theorem ch_cons {k : Kd} {t : Tx} {es : List Evt} (h : CH es) : CH ((k, .tx t) :: es) := fun e he n => by
  rcases List.mem_cons.mp he with rfl | z
  · exact fun y => nomatch y
  · exact h e z n
theorem ch_evs (k : Kd) (t : Tx) : CH (evs k t) := fun e he n => by
  obtain ⟨c, _, rfl⟩ := List.mem_map.mp he
  exact fun y => nomatch y
theorem ch_app {a b : List Evt} (h1 : CH a) (h2 : CH b) : CH (a ++ b) := fun e he n => by
  rcases List.mem_append.mp he with z | z
  · exact h1 e z n
  · exact h2 e z n
theorem ch_gap (s : Sta) (c : Nat) : CH (stGap s c).2 := by
  unfold stGap
  repeat' split
  all_goals first | exact ch_nil | exact ch_cons ch_nil
theorem ch_settA (s : Sta) : (settA s).ch := ch_evs _ _
theorem ch_ref (s : Sta) (c : Nat) : (stRef s c).ch := by
  unfold stRef
  repeat' split
  all_goals first | exact ch_evs _ _ | exact ch_nil | exact ch_settA _
theorem ch_stp1 (s : Sta) (c : Nat) : (stp1 s c).ch := by
  have hv : (stVal s c).ch := by
    unfold stVal
    repeat' split
    all_goals first | exact ch_ref _ _ | exact ch_nil | exact ch_cons ch_nil | exact ch_gap _ _
  unfold stp1
  cases s.p with
  | text =>
    show (stText s c).ch
    unfold stText
    repeat' split
    all_goals first | exact ch_ref _ _ | exact ch_nil | exact ch_cons ch_nil | exact ch_settA _
  | tag =>
    show CH (stTag s c).2
    unfold stTag
    repeat' split
    all_goals first | exact ch_cons ch_nil | exact ch_gap _ _
  | gap => exact ch_gap _ _
  | name =>
    show CH (stName s c).2
    unfold stName
    repeat' split
    all_goals first | exact ch_cons ch_nil | exact ch_gap _ _ | exact ch_nil
  | equals =>
    show (stEq s c).ch
    unfold stEq
    repeat' split
    all_goals first | exact ch_cons ch_nil | exact ch_gap _ _
  | bare => exact hv
  | double => exact hv
  | single => exact hv
  | comment =>
    show (stCom s c).ch
    unfold stCom
    repeat' split
    all_goals first | exact ch_nil | exact ch_cons ch_nil | exact ch_settA _
  | raw =>
    show (stRaw s c).ch
    unfold stRaw
    repeat' split
    all_goals first | exact ch_cons (ch_evs _ _) | exact ch_nil | exact ch_cons ch_nil | exact ch_settA _
theorem ch_stpG (s : Sta) (c : Nat) : CH (stpG s c).2 := by
  have z := ch_stp1 s c
  unfold stpG
  cases e : stp1 s c with
  | go r => rw [e] at z; exact z
  | again s' e => exact ch_nil
theorem ch_stp (s : Sta) (c : Nat) : CH (stp s c).2 := by
  have z := ch_stp1 s c
  unfold stp
  cases e : stp1 s c with
  | go r => rw [e] at z; exact z
  | again s' e' => rw [e] at z; exact ch_app z (ch_stpG _ _)
theorem ch_fin (s : Sta) : CH (finE s) := by
  unfold finE
  refine ch_app ?_ ?_
  · split
    · exact ch_evs _ _
    · exact ch_nil
  · split
    · exact ch_nil
    · exact ch_cons ch_nil
/-- the marks of a row -/
def MK0 (es : List Evt) : Prop := ∀ e ∈ es, ∀ n, e.2 = .mk n → n = 0
theorem CH.mk0 {es : List Evt} (h : CH es) : MK0 es := fun e he n z => absurd z (h e he n)
theorem mk0_app {a b : List Evt} (h1 : MK0 a) (h2 : MK0 b) : MK0 (a ++ b) := fun e he n z => by
  rcases List.mem_append.mp he with y | y
  · exact h1 e y n z
  · exact h2 e y n z
theorem mk0_mk (s : Sta) : MK0 (mkStp s 0).2 := by
  have one : ∀ (k : Kd) (es : List Evt), MK0 es → MK0 ((k, .mk 0) :: es) := fun k es h e he n z => by
    rcases List.mem_cons.mp he with rfl | y
    · injection z with z; exact z.symm
    · exact h e y n z
  have nil : MK0 [] := fun e he => (by cases he)
  unfold mkStp
  repeat' split
  · exact mk0_app (ch_evs _ _).mk0 (one _ _ nil)
  · intro e he n z
    rcases List.mem_cons.mp he with rfl | y
    · cases z
    · exact one _ _ nil e y n z
  · exact one _ _ nil
  · exact one _ _ nil
  · exact one _ _ nil
/-- a row of signs and the mark 0 -/
def Row0 (r : List Itm) : Prop := ∀ n, Itm.mk n ∈ r → n = 0
theorem mk0_run : ∀ (r : List Itm) (s : Sta), Row0 r → MK0 (runR s r).2
  | [], s, _ => fun e he => (by cases he)
  | .ch c :: r, s, h => mk0_app (ch_stp s c).mk0 (mk0_run r _ fun n hn => h n (List.mem_cons_of_mem _ hn))
  | .mk n :: r, s, h => by
    have e : n = 0 := h n List.mem_cons_self
    subst e
    exact mk0_app (mk0_mk s) (mk0_run r _ fun n hn => h n (List.mem_cons_of_mem _ hn))
theorem ch_run : ∀ (r : Tx) (s : Sta), CH (runR s (itms r)).2
  | [], s => ch_nil
  | c :: r, s => ch_app (ch_stp s c) (ch_run r _)
theorem ch_evR (r : Tx) (s : Sta) : CH (evR s (itms r)) := ch_app (ch_run r s) (ch_fin _)
theorem mk0_evR {r : List Itm} (s : Sta) (h : Row0 r) : MK0 (evR s r) := mk0_app (mk0_run r s h) (ch_fin _).mk0
theorem mo_it {m m' : Mode} {e : Evt} (h : mo m e = some m') : sg e.2 = true ∨ e.2 = .tx [] := by
  obtain ⟨k, i⟩ := e
  cases m <;> cases k <;> simp only [mo] at h <;> first
    | (cases h; done)
    | (split at h
       · rename_i hi; first | exact .inl hi | exact .inr hi
       · cases h)
theorem moS_it : ∀ {es : List Evt} {m m' : Mode}, moS m es = some m' → ∀ e ∈ es, sg e.2 = true ∨ e.2 = .tx []
  | [], _, _, _, e, he => (by cases he)
  | d :: es, m, m', h, e, he => by
    have h : (match mo m d with | some m1 => moS m1 es | none => none) = some m' := h
    cases q : mo m d with
    | none => rw [q] at h; cases h
    | some m1 =>
      rw [q] at h
      rcases List.mem_cons.mp he with rfl | z
      · exact mo_it q
      · exact moS_it h e z
theorem it1_of {i : Item} (h : sg i = true ∨ i = .tx []) (hm : ∀ n, i = .mk n → n = 0) : It1 i := by
  cases i with
  | tx t =>
    rcases h with h | h
    · match t, h with
      | [c], _ => exact Nat.le_refl 1
    · injection h with h; subst h; exact Nat.zero_le _
  | mk n => exact hm n rfl
theorem evR_len {r : List Itm} (h : r.length ≤ 400) : (evR start r).length ≤ 9000 := by
  unfold evR
  rw [List.length_append]
  have := run_len r
  have := finE_len (sok_run r)
  omega
theorem ev_ok {r : List Itm} (h : r.length ≤ 400) (h0 : Row0 r) : EvOK (evR start r) :=
  ⟨(wf_all (md_all r)).2.2, fun e he => it1_of (moS_it (md_all r) e he) (fun n z => mk0_evR start h0 e he n z), evR_len h⟩

/-! ### bounds of what is filled -/
theorem piecF_len : ∀ (l : List Item) (s : Tx), (piecF s l).length ≤ 2 * l.length + 1
  | [], s => by unfold piecF; split <;> simp
  | .tx t :: l, s => by
    have z := piecF_len l (s ++ t)
    show (piecF (s ++ t) l).length ≤ _
    simp only [List.length_cons]; omega
  | .mk n :: l, s => by
    have z := piecF_len l []
    show ((if s = [] then [] else [Item.tx s]) ++ (.mk n :: piecF [] l)).length ≤ _
    have e : (if s = [] then [] else [Item.tx s]).length ≤ 1 := by split <;> simp
    simp only [List.length_append, List.length_cons]; omega
theorem piecF_mk : ∀ (l : List Item) (s : Tx) (n : Nat), Item.mk n ∈ piecF s l → Item.mk n ∈ l
  | [], s, n, h => by
    unfold piecF at h
    split at h
    · cases h
    · have := List.mem_singleton.mp h; cases this
  | .tx t :: l, s, n, h => List.mem_cons_of_mem _ (piecF_mk l (s ++ t) n h)
  | .mk m :: l, s, n, h => by
    have h : Item.mk n ∈ (if s = [] then [] else [Item.tx s]) ++ (.mk m :: piecF [] l) := h
    rcases List.mem_append.mp h with z | z
    · split at z
      · cases z
      · have := List.mem_singleton.mp z; cases this
    · rcases List.mem_cons.mp z with y | y
      · rw [y]; exact List.mem_cons_self
      · exact List.mem_cons_of_mem _ (piecF_mk l [] n y)
theorem joinT_len {texts : List Tx} (ht : ∀ n, (texts.getD n []).length ≤ 100) : ∀ {l : List Item}, (∀ i ∈ l, It1 i) → (joinT texts l).length ≤ 100 * l.length
  | [], _ => by simp [joinT]
  | i :: l, h => by
    have z := joinT_len ht (l := l) fun j hj => h j (List.mem_cons_of_mem _ hj)
    have e : joinT texts (i :: l) = itT texts i ++ joinT texts l := rfl
    have h1 : (itT texts i).length ≤ 100 := by
      cases i with
      | tx t => have q : t.length ≤ 1 := h (.tx t) List.mem_cons_self; show t.length ≤ 100; omega
      | mk n => exact ht n
    rw [e, List.length_append, List.length_cons]; omega
theorem jok_of {texts : List Tx} (ht : ∀ n, (texts.getD n []).length ≤ 100) {l : List Item} (h : ∀ i ∈ l, It1 i ∧ ∀ n, i = .mk n → n < texts.length) (hl : l.length ≤ 9000) : JOK texts (piec l) := by
  refine ⟨?_, ?_, fun n hn => (h _ (piecF_mk l [] n hn)).2 n rfl⟩
  · have := piecF_len l []
    show (piecF [] l).length ≤ _
    omega
  · rw [joinT_piec]
    have := joinT_len ht (l := l) fun i hi => (h i hi).1
    omega
theorem jt_of {texts : List Tx} (ht : ∀ n, (texts.getD n []).length ≤ 100) {es : List Evt} (h : ∀ e ∈ es, It1 e.2 ∧ ∀ n, e.2 = .mk n → n < texts.length) (hl : es.length ≤ 9000) : (mkToks es).length ≤ 20000 ∧ ∀ t ∈ mkToks es, JT texts t := by
  have b := TB.build (P := fun i => It1 i ∧ ∀ n, i = .mk n → n < texts.length) es h es.length (Nat.le_refl _)
  rw [List.take_length] at b
  refine ⟨by unfold mkToks; rw [List.length_map]; have := b.1; omega, fun t ht' => ?_⟩
  obtain ⟨u, hu, rfl⟩ := List.mem_map.mp ht'
  have bu := b.2 u hu
  refine ⟨jok_of ht bu.1 (by have := bu.2.1; omega), fun l hl' => ?_⟩
  unfold mkTok at hl'
  simp only at hl'
  split at hl'
  · injection hl' with hl'
    subst hl'
    refine ⟨by rw [List.length_map]; have := bu.2.2.1; omega, fun q hq => ?_⟩
    obtain ⟨r, hr, rfl⟩ := List.mem_map.mp hq
    have br := bu.2.2.2 r hr
    refine ⟨jok_of ht br.1 (by have := br.2.1; omega), fun v hv => ?_⟩
    unfold mkPair at hv
    simp only at hv
    cases e : r.2 with
    | none => rw [e] at hv; cases hv
    | some x =>
      rw [e] at hv
      injection hv with hv
      subst hv
      have y := br.2.2 x e
      exact jok_of ht y.1 (by have := y.2; omega)
  · cases hl'
/-! ### how much there is -/
def wtP (q : List Item × Option (List Item)) : Nat := 2 + q.1.length + (q.2.getD []).length
def wtT (t : Tok) : Nat := 1 + t.its.length + (t.prs.map wtP).sum
def wts (ts : List Tok) : Nat := (ts.map wtT).sum
theorem wts_snoc (ts : List Tok) (t : Tok) : wts (ts ++ [t]) = wts ts + wtT t := by unfold wts; simp
theorem wts_last (f : Tok → Tok) (h : ∀ t, wtT (f t) ≤ wtT t + 4) (ts : List Tok) : wts (lastM f ts) ≤ wts ts + 4 := by
  rcases List.eq_nil_or_concat ts with rfl | ⟨init, t, rfl⟩
  · exact Nat.zero_le _
  · rw [List.concat_eq_append, lastM_snoc, wts_snoc, wts_snoc]
    have := h t
    omega
theorem wt_add (i : Item) (t : Tok) : wtT (t.add i) ≤ wtT t + 4 := by
  obtain ⟨k, its, prs⟩ := t
  rcases List.eq_nil_or_concat prs with rfl | ⟨ps, q, rfl⟩
  · simp [Tok.add, wtT]; omega
  · simp [Tok.add, wtT, wtP]
    omega
theorem wt_attr (i : Item) (t : Tok) : wtT (t.attr i) ≤ wtT t + 4 := by
  simp [Tok.attr, wtT, wtP]
  omega
theorem wt_value (i : Item) (t : Tok) : wtT (t.value i) ≤ wtT t + 4 := by
  obtain ⟨k, its, prs⟩ := t
  rcases List.eq_nil_or_concat prs with rfl | ⟨ps, q, rfl⟩
  · simp [Tok.value]
  · rw [List.concat_eq_append]
    have e1 := val_last k its ps q.1 q.2 i
    have eq : (q.1, q.2) = q := rfl
    rw [eq] at e1
    rw [e1]
    by_cases hi : i = .tx []
    · rw [if_pos hi]; simp [wtT, wtP]; omega
    · rw [if_neg hi]; simp [wtT, wtP]; omega
theorem wts_take (ts : List Tok) (e : Evt) : wts (take ts e) ≤ wts ts + 4 := by
  obtain ⟨k, i⟩ := e
  have hA := wts_last _ (wt_add i) ts
  have hN : ∀ (k : Kd) (l : List Item), l.length ≤ 1 → wts (ts ++ [⟨k, l, []⟩]) ≤ wts ts + 4 := fun k l hl => by
    rw [wts_snoc]
    simp [wtT]; omega
  cases k with
  | text => rw [take_tr (.inl rfl)]; split; exact hA; exact hN _ _ (by simp)
  | raw => rw [take_tr (.inr rfl)]; split; exact hA; exact hN _ _ (by simp)
  | tag => exact hN _ _ (by simp)
  | fin => exact hN _ _ (by simp)
  | comment =>
    show wts (if i = .tx [] then _ else _) ≤ _
    split
    · exact hN _ _ (by simp)
    · exact hA
  | name => exact hA
  | attr => exact wts_last _ (wt_attr i) ts
  | value => exact wts_last _ (wt_value i) ts
  | close => exact Nat.le_add_right _ _
theorem wts_build : ∀ (es : List Evt) (ts : List Tok), wts (es.foldl take ts) ≤ wts ts + 4 * es.length
  | [], ts => Nat.le_refl _
  | e :: es, ts => by
    have z := wts_build es (take ts e)
    have y := wts_take ts e
    rw [List.foldl_cons, List.length_cons]; omega
theorem prs_items (l : List (List Item × Option (List Item))) : ((l.map mkPair).flatMap fun q => q.1 ++ q.2.getD []).length ≤ 2 * (l.map wtP).sum := by
  induction l with
  | nil => exact Nat.zero_le _
  | cons q l ih =>
    rw [List.map_cons, List.flatMap_cons, List.length_append, List.map_cons, List.sum_cons]
    have h1 := piecF_len q.1 []
    have h2 : ((q.2.map piec).getD []).length ≤ 2 * (q.2.getD []).length + 1 := by
      cases q.2 with
      | none => exact Nat.zero_le _
      | some v => exact piecF_len v []
    have h3 : ((mkPair q).1 ++ (mkPair q).2.getD []).length = (piecF [] q.1).length + ((q.2.map piec).getD []).length := by rw [List.length_append]; rfl
    have h4 : wtP q = 2 + q.1.length + (q.2.getD []).length := rfl
    omega
theorem tok_items (t : Tok) : (tokItems (mkTok t)).length ≤ 2 * wtT t := by
  unfold tokItems mkTok
  simp only [List.length_append]
  have h1 := piecF_len t.its []
  have h2 := prs_items t.prs
  have h3 : wtT t = 1 + t.its.length + (t.prs.map wtP).sum := rfl
  have h0 : (piec t.its).length = (piecF [] t.its).length := rfl
  split
  · simp only [Option.getD_some]; omega
  · simp only [Option.getD_none, List.flatMap_nil, List.length_nil]; omega
theorem toks_items (ts : List Tok) : ((ts.map mkTok).flatMap tokItems).length ≤ 2 * wts ts := by
  induction ts with
  | nil => exact Nat.zero_le _
  | cons t ts ih =>
    rw [List.map_cons, List.flatMap_cons, List.length_append]
    have h := tok_items t
    have e : wts (t :: ts) = wtT t + wts ts := by unfold wts; simp
    omega
theorem items_len {es : List Evt} (hl : es.length ≤ 9000) : ((mkToks es).flatMap tokItems).length ≤ 500000 := by
  have h1 := toks_items (build es)
  have h2 := wts_build es []
  have e : wts [] = 0 := rfl
  have e2 : wts (build es) = wts (es.foldl take []) := rfl
  have e3 : mkToks es = (build es).map mkTok := rfl
  rw [e3]
  omega
def R_read : List PyData → PyData → Prop := fun l d => ∃ t : Tx, l = [pS t] ∧ t.length ≤ 400 ∧ d = .list ((readP t).map FTok.d)
def R_read_row : List PyData → PyData → Prop := fun l d => ∃ r : List Itm, l = [.list (r.map itD)] ∧ r.length ≤ 400 ∧ Row0 r ∧ d = .list ((mkToks (evR start r)).map MTok.d)
theorem row0_ch (t : Tx) : Row0 (itms t) := fun n h => by
  obtain ⟨c, _, e⟩ := List.mem_map.mp h
  cases e
theorem itms_len (t : Tx) : (itms t).length = t.length := by unfold itms; rw [List.length_map]
section
variable {P : Program} {w : World} {K : PySem.W.Frag} {mg : Str → Option Value} {base : Heap}

theorem sc_read : FnScope ["page"] ["page"] (defScope s_read) := ⟨rfl, rfl, rfl, by decide +kernel, rfl, by decide +kernel, by decide +kernel⟩
theorem cal_read (T : Fx K w mg) (c_events : CalR P w K mg base 16 "events" R_events) (c_marked_tokens : CalR P w K mg base 3 "marked_tokens" R_mt) (c_filled_tokens : CalR P w K mg base 3 "filled_tokens" R_filled_tokens)  : CalR P w K mg base 17 "read" (R_read) := by
  refine cal_of T.f_read sc_read (fun _ _ _ _ _ _ us hl => match us, hl with | [_], _ => rfl) ?_ (fun f cdv A outer s H E hr => ⟨_, pss_one (ps_ret (C8.pe_c c_filled_tokens hr (by omega) rfl (pa_cons (C8.pe_c c_marked_tokens hr (by omega) rfl (pa_cons (C8.pe_c c_events hr (by omega) rfl (pa_cons (pv 0) (pa_nil))) (pa_nil))) (pa_cons (pe_lst pa_nil) (pa_nil))))), ?_⟩)
  · intro l d h
    obtain ⟨t, rfl, hl, rfl⟩ := h
    rfl
  · intro l d h
    obtain ⟨t, rfl, hl, rfl⟩ := h
    have hj := jt_of (texts := []) (fun n => by simp) (es := evR start (itms t)) (fun e he => ⟨(ev_ok (by rw [itms_len]; exact hl) (row0_ch t)).it e he, fun n z => absurd z (ch_evR t start e he n)⟩) (evR_len (by rw [itms_len]; exact hl))
    exact sd_ret (ev_call (ea_cons (ev_call (ea_cons (ev_call (ea_cons (ev_var rfl) (ea_nil)) ⟨t, rfl, hl, rfl⟩) (ea_nil)) ⟨_, rfl, ev_ok (by rw [itms_len]; exact hl) (row0_ch t), rfl⟩) (ea_cons (ev_lst (ea_nil)) (ea_nil))) ⟨mkToks (evR start (itms t)), [], rfl, hj.1, hj.2, rfl⟩)

theorem sc_read_row : FnScope ["row"] ["row"] (defScope s_read_row) := ⟨rfl, rfl, rfl, by decide +kernel, rfl, by decide +kernel, by decide +kernel⟩
theorem cal_read_row (T : Fx K w mg) (c_marked_events : CalR P w K mg base 17 "marked_events" R_marked_events) (c_marked_tokens : CalR P w K mg base 3 "marked_tokens" R_mt)  : CalR P w K mg base 18 "read_row" (R_read_row) := by
  refine cal_of T.f_read_row sc_read_row (fun _ _ _ _ _ _ us hl => match us, hl with | [_], _ => rfl) ?_ (fun f cdv A outer s H E hr => ⟨_, pss_one (ps_ret (C8.pe_c c_marked_tokens hr (by omega) rfl (pa_cons (C8.pe_c c_marked_events hr (by omega) rfl (pa_cons (pv 0) (pa_nil))) (pa_nil)))), ?_⟩)
  · intro l d h
    obtain ⟨r, rfl, hl, hm, rfl⟩ := h
    rfl
  · intro l d h
    obtain ⟨r, rfl, hl, hm, rfl⟩ := h
    exact sd_ret (ev_call (ea_cons (ev_call (ea_cons (ev_var rfl) (ea_nil)) ⟨r, rfl, hl, rfl⟩) (ea_nil)) ⟨_, rfl, ev_ok hl hm, rfl⟩)

end
end K49

set_option Elab.async false
set_option linter.all false
set_option maxRecDepth 100000
/-! K49So: sorted of a list of (number, text). -/
namespace K49
open PySem L2
abbrev encD (b : Int × Tx) : PyData := .tuple [.int b.1, pS b.2]
def leIS : Int × Tx → Int × Tx → Bool := PySem.W.dataLe false encD
theorem leIS_eq (p q : Int × Tx) : leIS p q = !decide (q.1 < p.1 ∨ (q.1 = p.1 ∧ q.2 < p.2)) := by
  show (!PySem.W.dataLt (.tuple [.int q.1, pS q.2]) (.tuple [.int p.1, pS p.2])) = _
  rw [PySem.W.dataLt_pair (by simp [PySem.W.alike]) (by simp [PySem.W.alike]), PySem.W.dataLt_int, PySem.W.dataLt_str]
  simp only [PyData.eqv, beq_iff_eq]
  by_cases h1 : q.1 = p.1
  · by_cases h2 : q.2 = p.2
    · simp [h1, h2]
    · have h3 : ¬ SX.S q.2 = SX.S p.2 := fun z => h2 (SX.S_inj z)
      simp [h1, h3]
  · simp [h1]
inductive P2 (K : PySem.W.Frag) (H : Hp) : List V → List (Int × Tx) → Prop
  | nil : P2 K H [] []
  | cons {t : Addr} {b : Int × Tx} {vs : List V} {bs : List (Int × Tx)} : SqT K H t [.int b.1, .str (SX.S b.2)] → P2 K H vs bs → P2 K H (.ref t :: vs) (b :: bs)
theorem P2.len {K : PySem.W.Frag} {H : Hp} {vs : List V} {bs : List (Int × Tx)} (h : P2 K H vs bs) : vs.length = bs.length := by
  induction h with
  | nil => rfl
  | cons _ _ ih => rw [List.length_cons, List.length_cons, ih]
def rSortIS (K : PySem.W.Frag) : List V → Hp → VK → Prop := fun vs H Q => ∃ (G : Hp) (a : Addr) (xs : List V) (ps : List (Int × Tx)), vs = [.ref a] ∧ Ex G H ∧ SqL K H a xs ∧ P2 K G xs ps ∧ ps.length ≤ 1000 ∧
  ∀ ys p, P2 K G ys (ps.mergeSort leIS) → H p = none → Q (.ref p) (upd H p (.lst ys))
section
variable {X : Cx}
theorem p2_each {pins : List (Addr × Obj)} {σ : St} {G H : Hp} {s : Shared} (I : Inv X pins σ H s) (e : Ex G H) : ∀ {xs : List V} {ps : List (Int × Tx)} {us : List Value}, P2 X.K G xs ps → Vals xs us →
    PySem.W.EachIs (fun u b => (∃ t, u = Value.ref t ∧ SqT X.K G t [.int b.1, .str (SX.S b.2)]) ∧ ∃ as, PySem.Reads s.heap u (encD b) as) us ps
  | _, _, _, .nil, r => by cases r; exact .nil
  | _, _, _, .cons h1 h2, r => by
    cases r with
    | cons r1 r2 =>
      refine .cons ?_ (p2_each I e h2 r2)
      cases r1
      obtain ⟨its, rv, ⟨o, e1, e2, n, e3⟩, _⟩ := I.tuple (ex_t e h1)
      cases rv with
      | cons q1 rv =>
        cases rv with
        | cons q2 rv =>
          cases rv
          obtain ⟨t1, rfl⟩ := q1
          obtain ⟨t2, rfl⟩ := q2
          exact ⟨⟨_, rfl, h1⟩, _, .tuple e1 e2 e3 (.cons (.int _ _) (.cons (.str _ _) .nil))⟩
theorem each_back {K : PySem.W.Frag} {H : Hp} : ∀ {us : List Value} {ps : List (Int × Tx)}, PySem.W.EachIs (fun u b => ∃ t, u = Value.ref t ∧ SqT K H t [.int b.1, .str (SX.S b.2)]) us ps → ∃ ys, P2 K H ys ps ∧ Vals ys us
  | _, _, .nil => ⟨[], .nil, .nil⟩
  | _, _, .cons ⟨t, e, h1⟩ h2 => by
    obtain ⟨ys, p, v⟩ := each_back h2
    subst e
    exact ⟨_, .cons h1 p, .cons rfl v⟩
theorem cr_sortIS {k : Nat} (hr : Room k X.A) : CallR X (.builtin "sorted") (rSortIS X.K) := by
  intro pins s σ H vs us Q I r h
  obtain ⟨G, a, xs, ps, rfl, e, hs, hp, hl, q⟩ := h
  obtain ⟨its, rv, pl, hz⟩ := I.list hs
  rw [Vals.ref1 r]
  have ee := p2_each I e hp rv
  refine PySem.W.sorted_data (enc := encD) (bs := ps) (R := fun u b => ∃ t, u = Value.ref t ∧ SqT X.K G t [.int b.1, .str (SX.S b.2)]) pl.isList (ee.mono fun _ _ z => z.1) (ee.mono fun _ _ z => z.2) (.of fun b b' => ?_) (.tuples fun b => ⟨_, _, rfl⟩) (Nat.le_trans hl (by decide)) (fun b _ => ?_) fun out h1 h2 => ?_
  · simp [PySem.W.alike, PySem.W.alikeAll]
  · have z := hr.units
    have e : (encD b).depth = 1 := by simp [PyData.depth, PyData.depthAll]
    rw [e]; omega
  · obtain ⟨ys, hy, vy⟩ := each_back h2
    obtain ⟨ep, he'⟩ := PyProof.Rows.sortedAll_at s.heap its out.toArray
    have hlen : ys.length ≤ sizeLine := by rw [hy.len, List.length_mergeSort]; exact Nat.le_trans hl (by decide)
    exact ⟨.ref _, upd H (s.heap.objs.size + 1) (.lst ys), I.laid (t' := s.toks) (fun _ _ => PyProof.Rows.sortedAll_old) (Nat.le_succ _) ⟨hlen, out, ep, vy, he'⟩, rfl, q ys _ hy (I.hok.fresh (Nat.le_succ _))⟩
end
section
variable {K : PySem.W.Frag} {ds : List (Option PyData)} {te : TE}
theorem isl_p2 {G : Hp} : ∀ {ps : List (Int × Tx)} {vs : List V}, IsL K G vs (ps.map encD) → P2 K G vs ps
  | [], _, h => by cases h; exact .nil
  | b :: ps, _, h => by
    cases h with
    | cons h1 h2 =>
      cases h1 with
      | tup t1 t2 =>
        cases t2 with
        | cons i1 t2 =>
          cases t2 with
          | cons i2 t2 =>
            cases t2
            rw [i1.int_, i2.str_] at t1
            exact .cons t1 (isl_p2 h2)
theorem p2_isl {G : Hp} : ∀ {ps : List (Int × Tx)} {vs : List V}, P2 K G vs ps → IsL K G vs (ps.map encD)
  | _, _, .nil => .nil
  | _, _, .cons h1 h2 => .cons (.tup h1 (.cons (.int _) (.cons (.str _) .nil))) (p2_isl h2)
theorem ev_sortIS {ps : List (Int × Tx)} (h : Ev K te ds (.list (ps.map encD))) (hl : ps.length ≤ 1000) : Ev K (tCB (rSortIS K) (tCons te tNil)) ds (.list ((ps.mergeSort leIS).map encD)) := fun σ G H e en Q q =>
  h σ G H e en _ fun v G1 H1 g1 r1 => by
    cases r1 with
    | lst h1 h2 =>
      refine ⟨G1, _, _, ps, rfl, g1.gh, .of (g1.gh _ _ h1), isl_p2 h2, hl, fun ys p hy hp => ?_⟩
      have n1 := g1.gh.non_ hp
      exact q _ _ _ (g1.trans (.lay g1.gh _ hp)) (.lst upd_same ((p2_isl hy).up (Ex.new n1)))
/-- the sign's least reference, by the order -/
theorem srt1 (a : Int × Tx) : [a].mergeSort leIS = [a] := List.mergeSort_singleton a
theorem srt2 {a b : Int × Tx} (h : leIS a b = true) : [a, b].mergeSort leIS = [a, b] := by
  refine List.mergeSort_of_pairwise ?_
  simp [h]
theorem srt2' {a b : Int × Tx} (h : leIS b a = true) (h' : leIS a b = false) : [a, b].mergeSort leIS = [b, a] := by
  have e : [a, b].mergeSort leIS = [b, a].mergeSort leIS := by
    simp [List.mergeSort, List.MergeSort.Internal.splitInTwo, List.merge, h, h']
  rw [e, srt2 h]
end
end K49

set_option Elab.async false
set_option linter.all false
set_option maxRecDepth 100000
/-! K49Co: codings, needs. -/
namespace K49
open PySem L2
def imD (im : List (Nat × Tx)) : PyData := .list (im.map fun q => .tuple [pS [q.1], pS q.2])
def imS : List Nat := [38, 60, 34, 39, 10, 32, 62]
def TEXT : Tx := [116, 101, 120, 116]
def R_is_open : List PyData → PyData → Prop := fun l d => ∃ s : Sta, l = [s.d] ∧ d = .bool (isOpen s)
def R_is_admissible : List PyData → PyData → Prop := fun l d => ∃ s : Sta, l = [pS TEXT, s.d] ∧ d = .bool (isOpen s)
def R_least_reference : List PyData → PyData → Prop := fun l d => ∃ c : Nat, l = [pS [c]] ∧ c ∈ imS ∧ d = pS (leastR c)
def R_coding : List PyData → PyData → Prop := fun l d => ∃ s : Sta, l = [pS TEXT, s.d] ∧ isOpen s = true ∧ d = codD (codeO s)
def R_image_of : List PyData → PyData → Prop := fun l d => ∃ (im : List (Nat × Tx)) (c : Nat), l = [imD im, pS [c]] ∧ d = pS (imgOf im c)
def CodOK (c : Cod) : Prop := c.1.length ≤ 100 ∧ c.2.length ≤ 100 ∧ ∀ q ∈ c.2, q.2.length ≤ 100
def R_coded : List PyData → PyData → Prop := fun l d => ∃ (c : Cod) (t : Tx), l = [codD c, pS t] ∧ CodOK c ∧ t.length ≤ 100 ∧ d = pS (coded c t)
def smP (a b : Cod) : List (Int × Int) := ((a.1.length : Int), (b.1.length : Int)) :: ((a.2.map (·.1) ++ b.2.map (·.1)).map fun c => (((imgOf a.2 c).length : Int), ((imgOf b.2 c).length : Int)))
def smM (a b : Cod) : Bool := decide ((((smP a b).filter fun p => decide (p.2 < p.1)).length : Int) = 0) && decide ((0 : Int) < (((smP a b).filter fun p => decide (p.1 < p.2)).length : Int))
def R_is_smaller : List PyData → PyData → Prop := fun l d => ∃ a b : Cod, l = [codD a, codD b] ∧ CodOK a ∧ CodOK b ∧ d = .bool (smM a b)
def needT : Option Nat → Tx
  | none => []
  | some c => [c]
def needD (n : Option Nat) : PyData := pS (needT n)
def R_needs : List PyData → PyData → Prop := fun l d => ∃ s : Sta, l = [s.d] ∧ d = .list ((needL s).map needD)
def prD (p : Int × Int) : PyData := .tuple [.int p.1, .int p.2]
/-! ### what holds of the codes -/
theorem img_find (c : Nat) : ∀ im : List (Nat × Tx), im.lookup c = (im.find? fun q => decide ([q.1] = [c])).map (·.2)
  | [] => rfl
  | (a, t) :: im => by
    rw [List.lookup_cons, List.find?_cons]
    by_cases h : c = a
    · subst h; simp
    · have h2 : ¬ a = c := fun z => h z.symm
      simp [h, h2, img_find c im, beq_eq_false_iff_ne.mpr h]
theorem img_hit {im : List (Nat × Tx)} {c : Nat} {a : Nat × Tx} (h : im.find? (fun q => decide ([q.1] = [c])) = some a) : imgOf im c = a.2 := by
  unfold imgOf; rw [img_find, h]; rfl
theorem img_miss {im : List (Nat × Tx)} {c : Nat} (h : im.find? (fun q => decide ([q.1] = [c])) = none) : imgOf im c = [c] := by
  unfold imgOf; rw [img_find, h]; rfl
theorem img_len {im : List (Nat × Tx)} (h : ∀ q ∈ im, q.2.length ≤ 100) (c : Nat) : (imgOf im c).length ≤ 100 := by
  cases e : im.find? (fun q => decide ([q.1] = [c])) with
  | none => rw [img_miss e]; simp
  | some a => rw [img_hit e]; exact h a (List.mem_of_find?_eq_some e)
theorem flat_len : ∀ {l : List Tx}, (∀ t ∈ l, t.length ≤ 100) → l.flatten.length ≤ 100 * l.length
  | [], _ => by simp
  | t :: l, h => by
    have z := flat_len (l := l) fun u hu => h u (List.mem_cons_of_mem _ hu)
    have y := h t List.mem_cons_self
    rw [List.flatten_cons, List.length_append, List.length_cons]; omega
theorem images_mem {p : Pl} {c : Nat} (h : c ∈ images p) : c ∈ imS := by
  cases p <;> simp [images, imS] at h ⊢ <;> omega
theorem leastR_len {c : Nat} (h : c ∈ imS) : (leastR c).length ≤ 100 := by
  simp only [imS, List.mem_cons, List.not_mem_nil, or_false] at h
  rcases h with rfl | rfl | rfl | rfl | rfl | rfl | rfl <;> decide +kernel
theorem codeO_ok (s : Sta) : CodOK (codeO s) := by
  unfold codeO
  refine ⟨?_, ?_, fun q hq => ?_⟩
  · show (if s.p = .equals ∨ s.pd ≠ [] then [38, 59] else []).length ≤ 100
    split <;> simp
  · show ((images s.p).map _).length ≤ 100
    rw [List.length_map]
    cases s.p <;> simp [images]
  · obtain ⟨c, hc, rfl⟩ := List.mem_map.mp hq
    exact leastR_len (images_mem hc)
/-- the references of a sign -/
def lsR (c : Nat) : List Tx := (NAMD.filter fun q => decide (q.2 = [c])).map (·.1) ++ [[38, 35] ++ TL.numL c ++ [59]]
theorem srt_least {c : Nat} (h : c ∈ imS) : ∃ r, ((lsR c).map fun t => ((t.length : Int), t)).mergeSort leIS = (((leastR c).length : Int), leastR c) :: r := by
  simp only [imS, List.mem_cons, List.not_mem_nil, or_false] at h
  have one : ∀ a : Int × Tx, ∃ r, [a].mergeSort leIS = a :: r := fun a => ⟨[], srt1 a⟩
  have two : ∀ a b : Int × Tx, leIS a b = true → ∃ r, [a, b].mergeSort leIS = a :: r := fun a b h => ⟨[b], srt2 h⟩
  have two' : ∀ a b : Int × Tx, leIS b a = true → leIS a b = false → ∃ r, [a, b].mergeSort leIS = b :: r := fun a b h h' => ⟨[a], srt2' h h'⟩
  rcases h with rfl | rfl | rfl | rfl | rfl | rfl | rfl
  · have e : ((lsR 38).map fun t => ((t.length : Int), t)) = [(5, [38, 97, 109, 112, 59]), (5, [38, 35, 51, 56, 59])] := by decide +kernel
    have e2 : (((leastR 38).length : Int), leastR 38) = (5, [38, 35, 51, 56, 59]) := by decide +kernel
    rw [e, e2]
    exact two' _ _ (by rw [leIS_eq]; decide +kernel) (by rw [leIS_eq]; decide +kernel)
  · have e : ((lsR 60).map fun t => ((t.length : Int), t)) = [(4, [38, 108, 116, 59]), (5, [38, 35, 54, 48, 59])] := by decide +kernel
    have e2 : (((leastR 60).length : Int), leastR 60) = (4, [38, 108, 116, 59]) := by decide +kernel
    rw [e, e2]
    exact two _ _ (by rw [leIS_eq]; decide +kernel)
  · have e : ((lsR 34).map fun t => ((t.length : Int), t)) = [(((leastR 34).length : Int), leastR 34)] := by decide +kernel
    rw [e]; exact one _
  · have e : ((lsR 39).map fun t => ((t.length : Int), t)) = [(((leastR 39).length : Int), leastR 39)] := by decide +kernel
    rw [e]; exact one _
  · have e : ((lsR 10).map fun t => ((t.length : Int), t)) = [(((leastR 10).length : Int), leastR 10)] := by decide +kernel
    rw [e]; exact one _
  · have e : ((lsR 32).map fun t => ((t.length : Int), t)) = [(((leastR 32).length : Int), leastR 32)] := by decide +kernel
    rw [e]; exact one _
  · have e : ((lsR 62).map fun t => ((t.length : Int), t)) = [(4, [38, 103, 116, 59]), (5, [38, 35, 54, 50, 59])] := by decide +kernel
    have e2 : (((leastR 62).length : Int), leastR 62) = (4, [38, 103, 116, 59]) := by decide +kernel
    rw [e, e2]
    exact two _ _ (by rw [leIS_eq]; decide +kernel)
theorem NAMD_look {a : Tx × Tx} (h : a ∈ NAMD) : (dS NAMD).lookup (SX.S a.1) = some (V.str (SX.S a.2)) := by
  rw [dS_look]
  simp only [NAMD, List.mem_cons, List.not_mem_nil, or_false] at h
  rcases h with rfl | rfl | rfl | rfl <;> rfl
theorem NAMD_inj : ∀ a ∈ NAMD, ∀ b ∈ NAMD, a.1 = b.1 → a = b := by decide
section
variable {K : PySem.W.Frag} {ds : List (Option PyData)} {te ta to : TE}
/-- a list display, one's own -/
theorem em_lstA {ta : TA} {l : List PyData} (h : EvA K ta ds l) (hl : l.length ≤ 1000) : EvM K (tLst ta) ds l := fun σ G H e en Q q =>
  h σ G H e en _ fun vs G1 H1 g1 r1 => ⟨by rw [r1.len]; exact sz (by omega), fun p hp => q p vs G1 _ (g1.mut (g1.gh.non_ hp) (g1.h.non_ hp)) upd_same (g1.gh.non_ hp) (g1.h.non_ hp) r1⟩
theorem joinE (ys : List Tx) : Txt.join (SX.S []) (ys.map SX.S) = SX.S ys.flatten := by
  rw [SX.join_S]
  congr 1
  induction ys with
  | nil => rfl
  | cons y ys ih =>
    cases ys with
    | nil => simp [TL.joinL]
    | cons z zs =>
      have e : TL.joinL [] (y :: z :: zs) = y ++ [] ++ TL.joinL [] (z :: zs) := by simp [TL.joinL]
      rw [e, ih]
      simp
theorem sum_len (ys : List Tx) : ((ys.map SX.S).map (·.length)).sum = ys.flatten.length := by
  induction ys with
  | nil => rfl
  | cons y ys ih => rw [List.map_cons, List.map_cons, List.sum_cons, ih, SX.S_len, List.flatten_cons, List.length_append]
theorem ev_join {l : List Tx} (h0 : Ev K to ds (pS [])) (h : Ev K te ds (.list (l.map pS))) (hl : l.flatten.length ≤ 1000000) :
    Ev K (tM1 (fun x xs H Q => ∃ a p, ∃ ys : List Str, x = .str a ∧ xs = [.ref p] ∧ (SqL K H p (ys.map V.str) ∨ SqT K H p (ys.map V.str)) ∧ (ys.map (·.length)).sum + ys.length * a.length ≤ 16777216 ∧ Q (.str (Txt.join a ys)) H) to te) ds (pS l.flatten) := fun σ G H e en Q q =>
  h0 σ G H e en _ fun v G1 H1 g1 r1 => ⟨⟨_, r1.str_⟩, h σ G1 H1 g1.gh (en.mono g1.g) _ fun u G2 H2 g2 r2 => by
    rw [r1.str_]
    cases r2 with
    | lst h1 h2 =>
      have e2 : l.map pS = (l.map SX.S).map PyData.str := by rw [List.map_map]; rfl
      rw [e2] at h2
      have e3 := h2.strs
      subst e3
      refine ⟨_, _, l.map SX.S, rfl, rfl, .inl (.of (g2.gh _ _ h1)), ?_, ?_⟩
      · rw [sum_len, SX.S_len]
        show l.flatten.length + (l.map SX.S).length * 0 ≤ 16777216
        omega
      · rw [joinE]
        exact q _ G2 H2 (g1.trans g2) (.str _)⟩
end
section
variable {P : Program} {w : World} {K : PySem.W.Frag} {mg : Str → Option Value} {base : Heap}

theorem sc_is_open : FnScope ["state"] ["state"] (defScope s_is_open) := ⟨rfl, rfl, rfl, by decide +kernel, rfl, by decide +kernel, by decide +kernel⟩
theorem cal_is_open (T : Fx K w mg)   : CalR P w K mg base 1 "is_open" (R_is_open) := by
  refine cal_of T.f_is_open sc_is_open (fun _ _ _ _ _ _ us hl => match us, hl with | [_], _ => rfl) ?_ (fun f cdv A outer s H E hr => ⟨_, pss_one (ps_ret (pe_cmpR (in_seqK (K := K) rfl) (pe_ix (ix_tupK (K := K) rfl) (pv 0) (pe_int) (fun _ _ => rfl)) (C8.pe_gc rfl T.g_OPEN_PLACES) (by first | exact nomark _ | rfl))), ?_⟩)
  · intro l d h
    obtain ⟨s, rfl, rfl⟩ := h
    rfl
  · intro l d h
    obtain ⟨s, rfl, rfl⟩ := h
    exact sd_is (sd_ret (ev_op (ev_op (ev_var rfl) (ev_int) (rv_ixT rfl)) (ev_c T.v_OPEN_PLACES) (rv_inTs opens))) (by obtain ⟨p, el, pd⟩ := s; cases p <;> rfl)

theorem sc_is_admissible : FnScope ["kind", "state"] ["kind", "state"] (defScope s_is_admissible) := ⟨rfl, rfl, rfl, by decide +kernel, rfl, by decide +kernel, by decide +kernel⟩
theorem cal_is_admissible (T : Fx K w mg) (c_is_open : CalR P w K mg base 1 "is_open" R_is_open)  : CalR P w K mg base 2 "is_admissible" (R_is_admissible) := by
  refine cal_of T.f_is_admissible sc_is_admissible (fun _ _ _ _ _ _ us hl => match us, hl with | [_, _], _ => rfl) ?_ (fun f cdv A outer s H E hr => ⟨_, pss_one (ps_ret (pe_or (C8.pe_c c_is_open hr (by omega) rfl (pa_cons (pv 1) (pa_nil))) (pe_one (pe_and (pe_cmpR op_eq (pv 0) (pe_str) (by first | exact nomark _ | rfl)) (pe_one (pe_cmpR op_eq (pe_ix (ix_tupK (K := K) rfl) (pv 1) (pe_int) (fun _ _ => rfl)) (pe_str) (by first | exact nomark _ | rfl))))))), ?_⟩)
  · intro l d h
    obtain ⟨s, rfl, rfl⟩ := h
    rfl
  · intro l d h
    obtain ⟨s, rfl, rfl⟩ := h
    exact sd_is (sd_ret (ev_orV (ev_call (ea_cons (ev_var rfl) (ea_nil)) ⟨s, rfl, rfl⟩) (fun _ => ev_andV (ev_op (ev_var rfl) (ev_strS [100, 97, 116, 97]) rv_eqT) (fun _ => ev_op (ev_op (ev_var rfl) (ev_int) (rv_ixT rfl)) (ev_strS [114, 97, 119]) rv_eqT)))) (by have z : decide (TEXT = [100, 97, 116, 97]) = false := rfl; rw [z, Bool.false_and, Bool.or_false])

theorem sc_least_reference : FnScope ["char", "found", "name"] ["char"] (defScope s_least_reference) := ⟨rfl, rfl, rfl, by decide +kernel, rfl, by decide +kernel, by decide +kernel⟩
theorem cal_least_reference (T : Fx K w mg)   : CalR P w K mg base 1 "least_reference" (R_least_reference) := by
  refine cal_of T.f_least_reference sc_least_reference (fun _ _ _ _ _ _ us hl => match us, hl with | [_], _ => rfl) ?_ (fun f cdv A outer s H E hr => ⟨_, pss_cons (ps_setLc (i := 1) rfl sc_least_reference.nd rfl rfl (sw_true rfl rfl rfl (by decide +kernel)) (pi_kd T.d_NAMED (C8.pe_gc rfl T.g_NAMED)) (blkOk_by (own := [("name", 2)]) (N := ["char", "found", "name"]) (sc := defScope s_least_reference) (by decide +kernel)) (fun _ _ _ _ _ => pg_name (i := 2) sc_least_reference.nd rfl (.inl rfl)) (fun _ _ _ _ _ => pts_one (pt_cmpR op_eq (pe_ix (ix_D T.d_NAMED) (C8.pe_gc rfl T.g_NAMED) (pv 2) (fun _ _ => rfl)) (pv 0) (by first | exact nomark _ | rfl))) (fun _ _ _ _ _ => pv 2))
      (pss_cons (ps_expr (pe_bm PySem.F.plainAttrs_list PySem.F.slot_list_append PySem.F.type_list_append mt_append (pv 1) (pa_cons (pe_op op_add_str (pe_op op_add_str (pe_str) (pe_callTy call_str_int (by rfl) T.b_str (by decide +kernel) (pa_cons (pe_callB call_ord (by rfl) T.b_ord (by decide +kernel) (pa_cons (pv 0) pa_nil)) pa_nil))) (pe_str)) pa_nil)))
      (pss_one (ps_ret (pe_ix (ix_tupK (K := K) rfl) (pe_ix (ix_listK (K := K) rfl) (pe_callB (cr_sortIS hr) (by rfl) T.b_sorted (by decide +kernel) (pa_cons (pe_lc rfl sc_least_reference.nd (pi_listK (K := K) rfl (pv 1)) (blkOk_by (own := [("name", 2)]) (N := ["char", "found", "name"]) (sc := defScope s_least_reference) (by decide +kernel)) (fun _ _ _ _ _ => pg_name (i := 2) sc_least_reference.nd rfl (.inl rfl)) (fun _ _ _ _ _ => pts_nil) (fun _ _ _ _ _ => pe_tup (pa_cons (pe_callB (call_lenK (K := K) rfl) (by rfl) T.b_len PySem.boot_len (pa_cons (pv 2) pa_nil)) (pa_cons (pv 2) (pa_nil))))) pa_nil)) (pe_int) (fun _ _ => rfl)) (pe_int) (fun _ _ => rfl))))), ?_⟩)
  · intro l d h
    obtain ⟨c, rfl, hc, rfl⟩ := h
    rfl
  · intro l d h
    obtain ⟨c, rfl, hc, rfl⟩ := h
    have hn : c < 1000000 := by
      simp only [imS, List.mem_cons, List.not_mem_nil, or_false] at hc
      omega
    have hnl : ∀ t ∈ lsR c, t.length ≤ 1000 := fun t ht => by
      simp only [imS, List.mem_cons, List.not_mem_nil, or_false] at hc
      rcases hc with rfl | rfl | rfl | rfl | rfl | rfl | rfl <;> (revert t; decide +kernel)
    have hll : (lsR c).length ≤ 5 := by
      simp only [imS, List.mem_cons, List.not_mem_nil, or_false] at hc
      rcases hc with rfl | rfl | rfl | rfl | rfl | rfl | rfl <;> decide +kernel
    have hnum : (TL.numL c).length ≤ 1000 := by
      have z := hnl ([38, 35] ++ TL.numL c ++ [59]) (List.mem_append_right _ (List.mem_singleton.mpr rfl))
      simp at z; omega
    obtain ⟨r, hr⟩ := srt_least hc
    refine sd_seq (sd_setM (em_lcF NAMD (fun q => pS q.1) (fun q => decide (q.2 = [c])) (fun q => pS q.1) _ src_kd (by decide) (by decide) (fun a ha b hb e => by
      have z : a.1 = b.1 := by injection e with e; exact SX.S_inj e
      rw [NAMD_inj a ha b hb z]; exact ⟨rfl, rfl⟩) (fun a ha => ⟨tgt_name, et_test (ev_op (ev_getD (ev_var rfl) (NAMD_look ha) (fun _ => .str _)) (ev_var rfl) rv_eqT), fun _ => ev_var rfl⟩))) ?_
    refine sd_seq (sd_app (ev_op (ev_op (ev_strS [38, 35]) (ev_strI (ev_ord (ev_var rfl)) hn) (rv_catS (by simp; omega))) (ev_strS [59]) (rv_catS (by simp; omega))) (by
      rw [List.length_map]
      exact Nat.le_trans (List.length_filter_le _ _) (by decide))) ?_
    refine sd_seal ?_
    have e0 : ((NAMD.filter fun q => decide (q.2 = [c])).map fun q => pS q.1) ++ [pS ([38, 35] ++ TL.numL c ++ [59])] = (lsR c).map pS := by
      unfold lsR; rw [List.map_append, List.map_map]; rfl
    rw [e0]
    exact sd_ret (ev_op (x := PyData.tuple [.int ((leastR c).length : Int), pS (leastR c)]) (ev_op (ev_is (ev_sortIS (ps := (lsR c).map fun t => ((t.length : Int), t)) (ev_is (ev_lcL (lsR c) pS (fun t => .tuple [.int t.length, pS t]) _ (ev_var rfl) (by omega) (by decide) (fun a ha b hb e => by
      have z : a = b := by injection e with e; exact SX.S_inj e
      rw [z]) (fun a ha => ⟨tgt_name, ev_tup (ea_cons (ev_lenS (ev_var rfl) (by have := hnl a ha; omega)) (ea_cons (ev_var rfl) ea_nil))⟩)) (by rw [List.map_map]; rfl)) (by rw [List.length_map]; omega)) (show _ = PyData.list (PyData.tuple [.int ((leastR c).length : Int), pS (leastR c)] :: r.map encD) by rw [hr]; rfl)) ev_int (rv_ixL (atI_nat (j := 0) rfl))) ev_int (rv_ixT rfl))

theorem cod_of (s : Sta) (hr : ¬ s.p = .raw) {b : Bool} (h : (decide (s.p.t = [101, 113, 117, 97, 108, 115]) || (!decide (s.p.t = [114, 97, 119]) && !decide (s.pd = []))) = b) :
    codD (codeO s) = .tuple [pS (if b = true then [38, 59] else []), .list ((images s.p).map fun c => PyData.tuple [pS [c], pS (leastR c)])] := by
  unfold codD codeO
  have e : (if s.p = .equals ∨ s.pd ≠ [] then [38, 59] else []) = (if b = true then [38, 59] else ([] : Tx)) := by
    have z : (s.p = .equals ∨ s.pd ≠ []) ↔ b = true := by
      rw [← h]
      simp only [pt_equals, pt_raw, Bool.or_eq_true, Bool.and_eq_true, decide_eq_true_eq, Bool.not_eq_true', decide_eq_false_iff_not]
      constructor
      · rintro (z | z)
        · exact .inl z
        · exact .inr ⟨hr, z⟩
      · rintro (z | z)
        · exact .inl z
        · exact .inr z.2
    by_cases q : s.p = .equals ∨ s.pd ≠ []
    · rw [if_pos q, if_pos (z.mp q)]
    · rw [if_neg q, if_neg (fun y => q (z.mpr y))]
  rw [e]
  simp only [List.map_map]
  rfl

theorem sc_coding : FnScope ["kind", "state", "prefix", "c"] ["kind", "state"] (defScope s_coding) := ⟨rfl, rfl, rfl, by decide +kernel, rfl, by decide +kernel, by decide +kernel⟩
theorem cal_coding (T : Fx K w mg) (c_is_admissible : CalR P w K mg base 2 "is_admissible" R_is_admissible) (c_least_reference : CalR P w K mg base 1 "least_reference" R_least_reference)  : CalR P w K mg base 3 "coding" (R_coding) := by
  refine cal_of T.f_coding sc_coding (fun _ _ _ _ _ _ us hl => match us, hl with | [_, _], _ => rfl) ?_ (fun f cdv A outer s H E hr => ⟨_, pss_cons (ps_if (pt_not (pt_val (C8.pe_c c_is_admissible hr (by omega) rfl (pa_cons (pv 0) (pa_cons (pv 1) (pa_nil))))))
       (pss_one (ps_never))
       (pss_nil))
      (pss_cons (ps_set (i := 2) sc_coding.nd rfl (.inl rfl) (pe_str))
      (pss_cons (ps_if (PW.pt (pw_or (pt_cmpR op_eq (pe_ix (ix_tupK (K := K) rfl) (pv 1) (pe_int) (fun _ _ => rfl)) (pe_str) (by first | exact nomark _ | rfl)) (pw_or1 (PW.pt (pw_and (pt_cmpR op_ne (pe_ix (ix_tupK (K := K) rfl) (pv 1) (pe_int) (fun _ _ => rfl)) (pe_str) (by first | exact nomark _ | rfl)) (pw_and1 (pt_cmpR op_ne (pe_ix (ix_tupK (K := K) rfl) (pv 1) (pe_int) (fun _ _ => rfl)) (pe_str) (by first | exact nomark _ | rfl))))))))
       (pss_one (ps_set (i := 2) sc_coding.nd rfl (.inl rfl) (C8.pe_gc rfl T.s_EMPTY)))
       (pss_nil))
      (pss_one (ps_ret (pe_tup (pa_cons (pv 2) (pa_cons (pe_lc rfl sc_coding.nd (pi_str (pe_ix (ix_D T.d_IMAGES) (C8.pe_gc rfl T.g_IMAGES) (pe_ix (ix_tupK (K := K) rfl) (pv 1) (pe_int) (fun _ _ => rfl)) (fun _ _ => rfl))) (blkOk_by (own := [("c", 3)]) (N := ["kind", "state", "prefix", "c"]) (sc := defScope s_coding) (by decide +kernel)) (fun _ _ _ _ _ => pg_name (i := 3) sc_coding.nd rfl (.inl rfl)) (fun _ _ _ _ _ => pts_nil) (fun _ _ _ _ _ => pe_tup (pa_cons (pv 3) (pa_cons (C8.pe_c c_least_reference hr (by omega) rfl (pa_cons (pv 3) (pa_nil))) (pa_nil))))) (pa_nil)))))))), ?_⟩)
  · intro l d h
    obtain ⟨s, rfl, ho, rfl⟩ := h
    rfl
  · intro l d h
    obtain ⟨s, rfl, ho, rfl⟩ := h
    have him : (dS IMGL).lookup (SX.S s.p.t) = some (.str (SX.S (images s.p))) := by
      obtain ⟨p, el, pd⟩ := s
      cases p <;> first | rfl | (exfalso; revert ho; simp [isOpen]; done)
    have hr1 : ¬ s.p = .raw := fun z => by unfold isOpen at ho; rw [z] at ho; exact absurd ho (by decide)
    exact sd_ifq (et_not (et_B (ev_call (ea_cons (ev_var rfl) (ea_cons (ev_var rfl) (ea_nil))) ⟨s, rfl, rfl⟩)))
       (fun h0 => absurd h0 (by rw [ho]; decide))
       (fun h0 => sd_nextq (sd_seq (sd_set (ev_strS []))
      (sd_ifq (et_or (et_test (ev_op (ev_op (ev_var rfl) (ev_int) (rv_ixT rfl)) (ev_strS [101, 113, 117, 97, 108, 115]) rv_eqT)) (fun hq => et_and (et_test (ev_op (ev_op (ev_var rfl) (ev_int) (rv_ixT rfl)) (ev_strS [114, 97, 119]) rv_neT)) (fun hq => et_test (ev_op (ev_op (ev_var rfl) (ev_int) (rv_ixT rfl)) (ev_strS []) rv_neT))))
       (fun h1 => sd_seq (sd_set (ev_str)) (sd_is (sd_ret (ev_tup (ea_cons (ev_var rfl) (ea_cons (ev_lcS (fun c => PyData.tuple [pS [c], pS (leastR c)]) (ev_getD (ev_op (ev_var rfl) (ev_int) (rv_ixT rfl)) him (fun _ => .str _)) (by cases s.p <;> simp [images]) (fun c hc => ev_tup (ea_cons (ev_var rfl) (ea_cons (ev_call (ea_cons (ev_var rfl) (ea_nil)) ⟨_, rfl, images_mem hc, rfl⟩) (ea_nil))))) (ea_nil))))) (by rw [cod_of s hr1 h1]; rfl)))
       (fun h1 => sd_nextq (sd_is (sd_ret (ev_tup (ea_cons (ev_var rfl) (ea_cons (ev_lcS (fun c => PyData.tuple [pS [c], pS (leastR c)]) (ev_getD (ev_op (ev_var rfl) (ev_int) (rv_ixT rfl)) him (fun _ => .str _)) (by cases s.p <;> simp [images]) (fun c hc => ev_tup (ea_cons (ev_var rfl) (ea_cons (ev_call (ea_cons (ev_var rfl) (ea_nil)) ⟨_, rfl, images_mem hc, rfl⟩) (ea_nil))))) (ea_nil))))) (by rw [cod_of s hr1 h1]; rfl))))))

theorem sc_image_of : FnScope ["images", "character", "c", "image"] ["images", "character"] (defScope s_image_of) := ⟨rfl, rfl, rfl, by decide +kernel, rfl, by decide +kernel, by decide +kernel⟩
theorem cal_image_of (T : Fx K w mg)   : CalR P w K mg base 1 "image_of" (R_image_of) := by
  refine cal_of T.f_image_of sc_image_of (fun _ _ _ _ _ _ us hl => match us, hl with | [_, _], _ => rfl) ?_ (fun f cdv A outer s H E hr => ⟨_, pss_cons (ps_for PassesOwn.never rfl (pi_listK (K := K) rfl (pv 0)) (pg_tupK (K := K) rfl rfl (pgs_cons (pg_name (i := 2) sc_image_of.nd rfl (.inl rfl)) (pgs_cons (pg_name (i := 3) sc_image_of.nd rfl (.inl rfl)) (pgs_nil))))
       (pss_one (ps_if (pt_cmpR op_eq (pv 2) (pv 1) (by first | exact nomark _ | rfl)) (pss_one (ps_ret (pv 3))) pss_nil)))
      (pss_one (ps_ret (pv 1))), ?_⟩)
  · intro l d h
    obtain ⟨im, c, rfl, rfl⟩ := h
    rfl
  · intro l d h
    obtain ⟨im, c, rfl, rfl⟩ := h
    exact sd_searchq im (fun q => PyData.tuple [pS [q.1], pS q.2]) _ _ _ _ (src_lst (ev_var rfl)) (Wk.refl _) (fun _ _ z => nomatch z) (fun a => tgt_tup2)
       (fun a ha => sd_ifS (et_test (ev_op (ev_var rfl) (ev_var rfl) rv_eqT)) (fun h0 => sd_ret (ev_var rfl)) (fun h0 => sd_weak sd_next (.same _ (.same _ (.any _ (.any _ .nil))))))
       (fun a h => by rw [img_hit h])
       (fun hm => sd_is (sd_ret (ev_var rfl)) (by rw [img_miss hm]))

theorem sc_coded : FnScope ["coding", "text", "prefix", "images", "c"] ["coding", "text"] (defScope s_coded) := ⟨rfl, rfl, rfl, by decide +kernel, rfl, by decide +kernel, by decide +kernel⟩
theorem cal_coded (T : Fx K w mg) (c_image_of : CalR P w K mg base 1 "image_of" R_image_of)  : CalR P w K mg base 2 "coded" (R_coded) := by
  refine cal_of T.f_coded sc_coded (fun _ _ _ _ _ _ us hl => match us, hl with | [_, _], _ => rfl) ?_ (fun f cdv A outer s H E hr => ⟨_, pss_cons (ps_asg (pv 0) (pg_tupK (K := K) rfl rfl (pgs_cons (pg_name (i := 2) sc_coded.nd rfl (.inl rfl)) (pgs_cons (pg_name (i := 3) sc_coded.nd rfl (.inr rfl)) (pgs_nil)))))
      (pss_one (ps_ret (pe_op op_add_str (pv 2) (pe_join (pe_str) (pe_lc rfl sc_coded.nd (pi_str (pv 1)) (blkOk_by (own := [("c", 4)]) (N := ["coding", "text", "prefix", "images", "c"]) (sc := defScope s_coded) (by decide +kernel)) (fun _ _ _ _ _ => pg_name (i := 4) sc_coded.nd rfl (.inl rfl)) (fun _ _ _ _ _ => pts_nil) (fun _ _ _ _ _ => C8.pe_c c_image_of hr (by omega) rfl (pa_cons (pv 3) (pa_cons (pv 4) (pa_nil))))))))), ?_⟩)
  · intro l d h
    obtain ⟨cd, t, rfl, hc, ht, rfl⟩ := h
    rfl
  · intro l d h
    obtain ⟨cd, t, rfl, hc, ht, rfl⟩ := h
    have hf : ∀ u ∈ t.map (imgOf cd.2), u.length ≤ 100 := fun u hu => by
      obtain ⟨c, _, rfl⟩ := List.mem_map.mp hu
      exact img_len hc.2.2 c
    have hfl := flat_len hf
    rw [List.length_map] at hfl
    refine sd_seq (sd_asg (ev_var rfl) tgt_tup2) (sd_ret (ev_op (ev_var rfl) (ev_join (l := t.map (imgOf cd.2)) (ev_strS []) (ev_is (ev_lcS (fun c => pS (imgOf cd.2 c)) (ev_var rfl) (by omega) (fun c hc => ev_call (ea_cons (ev_var rfl) (ea_cons (ev_var rfl) (ea_nil))) ⟨cd.2, c, rfl, rfl⟩)) (by rw [List.map_map]; rfl)) (by omega)) (rv_catS (by have := hc.1; omega))))

theorem sc_is_smaller : FnScope ["first", "second", "characters", "pairs", "c", "longer", "shorter", "_", "pair"] ["first", "second"] (defScope s_is_smaller) := ⟨rfl, rfl, rfl, by decide +kernel, rfl, by decide +kernel, by decide +kernel⟩
theorem cal_is_smaller (T : Fx K w mg) (c_image_of : CalR P w K mg base 1 "image_of" R_image_of)  : CalR P w K mg base 2 "is_smaller" (R_is_smaller) := by
  refine cal_of T.f_is_smaller sc_is_smaller (fun _ _ _ _ _ _ us hl => match us, hl with | [_, _], _ => rfl) ?_ (fun f cdv A outer s H E hr => ⟨_, pss_cons (ps_set (i := 2) sc_is_smaller.nd rfl (.inl rfl) (pe_op op_cat (pe_lc rfl sc_is_smaller.nd (pi_listK (K := K) rfl (pe_ix (ix_tupK (K := K) rfl) (pv 0) (pe_int) (fun _ _ => rfl))) (blkOk_by (own := [("c", 4), ("_", 7)]) (N := ["first", "second", "characters", "pairs", "c", "longer", "shorter", "_", "pair"]) (sc := defScope s_is_smaller) (by decide +kernel)) (fun _ _ _ _ _ => pg_tupK (K := K) (n := 2) rfl rfl (pgs_cons (pg_name (i := 4) sc_is_smaller.nd rfl (.inl rfl)) (pgs_cons (pg_name (i := 7) sc_is_smaller.nd rfl (.inl rfl)) (pgs_nil)))) (fun _ _ _ _ _ => pts_nil) (fun _ _ _ _ _ => pv 4)) (pe_lc rfl sc_is_smaller.nd (pi_listK (K := K) rfl (pe_ix (ix_tupK (K := K) rfl) (pv 1) (pe_int) (fun _ _ => rfl))) (blkOk_by (own := [("c", 4), ("_", 7)]) (N := ["first", "second", "characters", "pairs", "c", "longer", "shorter", "_", "pair"]) (sc := defScope s_is_smaller) (by decide +kernel)) (fun _ _ _ _ _ => pg_tupK (K := K) (n := 2) rfl rfl (pgs_cons (pg_name (i := 4) sc_is_smaller.nd rfl (.inl rfl)) (pgs_cons (pg_name (i := 7) sc_is_smaller.nd rfl (.inl rfl)) (pgs_nil)))) (fun _ _ _ _ _ => pts_nil) (fun _ _ _ _ _ => pv 4))))
      (pss_cons (ps_set (i := 3) sc_is_smaller.nd rfl (.inl rfl) (pe_lst (pa_cons (pe_tup (pa_cons (pe_callB (call_lenK (K := K) rfl) (by rfl) T.b_len PySem.boot_len (pa_cons (pe_ix (ix_tupK (K := K) rfl) (pv 0) (pe_int) (fun _ _ => rfl)) pa_nil)) (pa_cons (pe_callB (call_lenK (K := K) rfl) (by rfl) T.b_len PySem.boot_len (pa_cons (pe_ix (ix_tupK (K := K) rfl) (pv 1) (pe_int) (fun _ _ => rfl)) pa_nil)) (pa_nil)))) (pa_nil))))
      (pss_cons (ps_for PassesOwn.never rfl (pi_listK (K := K) rfl (pv 2)) (pg_name (i := 4) sc_is_smaller.nd rfl (.inl rfl))
       (pss_one (ps_expr (pe_bm PySem.F.plainAttrs_list PySem.F.slot_list_append PySem.F.type_list_append mt_append (pv 3) (pa_cons (pe_tup (pa_cons (pe_callB (call_lenK (K := K) rfl) (by rfl) T.b_len PySem.boot_len (pa_cons (C8.pe_c c_image_of hr (by omega) rfl (pa_cons (pe_ix (ix_tupK (K := K) rfl) (pv 0) (pe_int) (fun _ _ => rfl)) (pa_cons (pv 4) (pa_nil)))) pa_nil)) (pa_cons (pe_callB (call_lenK (K := K) rfl) (by rfl) T.b_len PySem.boot_len (pa_cons (C8.pe_c c_image_of hr (by omega) rfl (pa_cons (pe_ix (ix_tupK (K := K) rfl) (pv 1) (pe_int) (fun _ _ => rfl)) (pa_cons (pv 4) (pa_nil)))) pa_nil)) (pa_nil)))) pa_nil)))))
      (pss_cons (ps_setLc (i := 5) rfl sc_is_smaller.nd rfl rfl (sw_true rfl rfl rfl (by decide +kernel)) (pi_listK (K := K) rfl (pv 3)) (blkOk_by (own := [("pair", 8)]) (N := ["first", "second", "characters", "pairs", "c", "longer", "shorter", "_", "pair"]) (sc := defScope s_is_smaller) (by decide +kernel)) (fun _ _ _ _ _ => pg_name (i := 8) sc_is_smaller.nd rfl (.inl rfl)) (fun _ _ _ _ _ => pts_one (pt_cmpR op_gt (pe_ix (ix_tupK (K := K) rfl) (pv 8) (pe_int) (fun _ _ => rfl)) (pe_ix (ix_tupK (K := K) rfl) (pv 8) (pe_int) (fun _ _ => rfl)) (by first | exact nomark _ | rfl))) (fun _ _ _ _ _ => pv 8))
      (pss_cons (ps_setLc (i := 6) rfl sc_is_smaller.nd rfl rfl (sw_true rfl rfl rfl (by decide +kernel)) (pi_listK (K := K) rfl (pv 3)) (blkOk_by (own := [("pair", 8)]) (N := ["first", "second", "characters", "pairs", "c", "longer", "shorter", "_", "pair"]) (sc := defScope s_is_smaller) (by decide +kernel)) (fun _ _ _ _ _ => pg_name (i := 8) sc_is_smaller.nd rfl (.inl rfl)) (fun _ _ _ _ _ => pts_one (pt_cmpR op_lt (pe_ix (ix_tupK (K := K) rfl) (pv 8) (pe_int) (fun _ _ => rfl)) (pe_ix (ix_tupK (K := K) rfl) (pv 8) (pe_int) (fun _ _ => rfl)) (by first | exact nomark _ | rfl))) (fun _ _ _ _ _ => pv 8))
      (pss_one (ps_ret (pe_and (pe_cmpR op_eq (pe_callB (call_lenK (K := K) rfl) (by rfl) T.b_len PySem.boot_len (pa_cons (pv 5) pa_nil)) (pe_int) (by first | exact nomark _ | rfl)) (pe_one (pe_cmpR op_gt (pe_callB (call_lenK (K := K) rfl) (by rfl) T.b_len PySem.boot_len (pa_cons (pv 6) pa_nil)) (pe_int) (by first | exact nomark _ | rfl)))))))))), ?_⟩)
  · intro l d h
    obtain ⟨a, b, rfl, ha, hb, rfl⟩ := h
    rfl
  · intro l d h
    obtain ⟨a, b, rfl, ha, hb, rfl⟩ := h
    have inj : ∀ p q : Nat × Tx, PyData.tuple [pS [p.1], pS p.2] = PyData.tuple [pS [q.1], pS q.2] → pS [p.1] = pS [q.1] := fun p q e => by
      injection e with e; injection e with e
    have injP : ∀ p q : Int × Int, prD p = prD q → p = q := fun p q e => by
      unfold prD at e
      injection e with e
      injection e with e1 e2
      injection e1 with e1
      injection e2 with e2
      injection e2 with e2
      exact Prod.ext e1 e2
    have hL : (a.2.map (·.1) ++ b.2.map (·.1)).length ≤ 200 := by
      rw [List.length_append, List.length_map, List.length_map]; have := ha.2.1; have := hb.2.1; omega
    have eL : a.2.map (fun q => pS [q.1]) ++ b.2.map (fun q => pS [q.1]) = (a.2.map (·.1) ++ b.2.map (·.1)).map fun c => pS [c] := by
      rw [List.map_append, List.map_map, List.map_map]; rfl
    refine sd_seq (sd_set (ev_is (ev_op (ev_lcL a.2 (fun q => PyData.tuple [pS [q.1], pS q.2]) (fun q => pS [q.1]) _ (ev_op (ev_var rfl) (ev_int) (rv_ixT rfl)) (by have := ha.2.1; omega) (by decide) (fun p _ q _ e => inj p q e) (fun q hq => ⟨tgt_tup2, ev_var rfl⟩))
      (ev_lcL b.2 (fun q => PyData.tuple [pS [q.1], pS q.2]) (fun q => pS [q.1]) _ (ev_op (ev_var rfl) (ev_int) (rv_ixT rfl)) (by have := hb.2.1; omega) (by decide) (fun p _ q _ e => inj p q e) (fun q hq => ⟨tgt_tup2, ev_var rfl⟩)) (rv_cat (by rw [List.length_map, List.length_map]; have := ha.2.1; have := hb.2.1; omega))) (congrArg PyData.list eL))) ?_
    generalize hcs : a.2.map (·.1) ++ b.2.map (·.1) = cs at hL
    refine sd_seq (sd_setM (em_lstA (ea_cons (ev_tup (ea_cons (ev_lenS (ev_op (ev_var rfl) (ev_int) (rv_ixT rfl)) (by have := ha.1; omega)) (ea_cons (ev_lenS (ev_op (ev_var rfl) (ev_int) (rv_ixT rfl)) (by have := hb.1; omega)) (ea_nil)))) (ea_nil)) (Nat.le_of_ble_eq_true rfl))) ?_
    refine sd_seq (sd_foldq cs (fun c => pS [c]) (fun j => [some (codD a), some (codD b), some (.list (cs.map fun c => pS [c])), none, none, none, none, none, none]) (fun j c => [some (codD a), some (codD b), some (.list (cs.map fun c => pS [c])), none, some (pS [c]), none, none, none, none])
      (fun j => some (3, ((((a.1.length : Int), (b.1.length : Int)) :: ((cs.take j).map fun c => (((imgOf a.2 c).length : Int), ((imgOf b.2 c).length : Int)))).map prD))) (src_lst (ev_var rfl)) (Wk.refl _) rfl (fun j i ls z => by cases z; decide) (fun j a => tgt_name) (fun j c hcj => ?_)) ?_
    · have hln : ((((a.1.length : Int), (b.1.length : Int)) :: ((cs.take j).map fun c => (((imgOf a.2 c).length : Int), ((imgOf b.2 c).length : Int)))).map prD).length ≤ 1000 := by
        rw [List.length_map, List.length_cons, List.length_map, List.length_take]; omega
      refine sd_is (sd_weak (sd_app (ev_tup (ea_cons (ev_lenS (ev_call (ea_cons (ev_op (ev_var rfl) (ev_int) (rv_ixT rfl)) (ea_cons (ev_var rfl) (ea_nil))) ⟨a.2, c, rfl, rfl⟩) (by have := img_len ha.2.2 c; omega)) (ea_cons (ev_lenS (ev_call (ea_cons (ev_op (ev_var rfl) (ev_int) (rv_ixT rfl)) (ea_cons (ev_var rfl) (ea_nil))) ⟨b.2, c, rfl, rfl⟩) (by have := img_len hb.2.2 c; omega)) (ea_nil)))) (by omega)) (.same _ (.same _ (.same _ (.same _ (.any _ (.same _ (.same _ (.same _ (.same _ .nil)))))))))) ?_
      rw [List.take_add_one, hcj, Option.toList_some, List.map_append, ← List.cons_append, List.map_append]
      rfl
    · rw [List.take_length]
      have esm : (((a.1.length : Int), (b.1.length : Int)) :: (cs.map fun c => (((imgOf a.2 c).length : Int), ((imgOf b.2 c).length : Int)))) = smP a b := by unfold smP; rw [hcs]
      rw [esm]
      have hsl : (smP a b).length ≤ 1000 := by rw [← esm, List.length_cons, List.length_map]; omega
      refine sd_seal ?_
      refine sd_seq (sd_set (ev_lcF (smP a b) prD (fun p => decide (p.2 < p.1)) prD _ (src_lst (ev_var rfl)) (by omega) (by decide) (fun p _ q _ e => by rw [injP p q e]; exact ⟨rfl, rfl⟩) (fun p hp => ⟨tgt_name, et_test (ev_op (ev_op (ev_var rfl) (ev_int) (rv_ixT rfl)) (ev_op (ev_var rfl) (ev_int) (rv_ixT rfl)) rv_gtI), fun _ => ev_var rfl⟩))) ?_
      refine sd_seq (sd_set (ev_lcF (smP a b) prD (fun p => decide (p.1 < p.2)) prD _ (src_lst (ev_var rfl)) (by omega) (by decide) (fun p _ q _ e => by rw [injP p q e]; exact ⟨rfl, rfl⟩) (fun p hp => ⟨tgt_name, et_test (ev_op (ev_op (ev_var rfl) (ev_int) (rv_ixT rfl)) (ev_op (ev_var rfl) (ev_int) (rv_ixT rfl)) rv_ltI), fun _ => ev_var rfl⟩))) ?_
      refine sd_is (sd_ret (ev_andV (ev_op (ev_lenL (ev_var rfl)) (ev_int) rv_eqI) (fun _ => ev_op (ev_lenL (ev_var rfl)) (ev_int) rv_gtI))) ?_
      unfold smM
      rw [List.length_map, List.length_map]

theorem sc_needs : FnScope ["state", "prefix", "images", "out", "c", "_"] ["state"] (defScope s_needs) := ⟨rfl, rfl, rfl, by decide +kernel, rfl, by decide +kernel, by decide +kernel⟩
theorem cal_needs (T : Fx K w mg) (c_is_open : CalR P w K mg base 1 "is_open" R_is_open) (c_coding : CalR P w K mg base 3 "coding" R_coding)  : CalR P w K mg base 4 "needs" (R_needs) := by
  refine cal_of T.f_needs sc_needs (fun _ _ _ _ _ _ us hl => match us, hl with | [_], _ => rfl) ?_ (fun f cdv A outer s H E hr => ⟨_, pss_cons (ps_if (pt_not (pt_val (C8.pe_c c_is_open hr (by omega) rfl (pa_cons (pv 0) (pa_nil)))))
       (pss_one (ps_ret (pe_lst pa_nil)))
       (pss_nil))
      (pss_cons (ps_asg (C8.pe_c c_coding hr (by omega) rfl (pa_cons (pe_str) (pa_cons (pv 0) (pa_nil)))) (pg_tupK (K := K) rfl rfl (pgs_cons (pg_name (i := 1) sc_needs.nd rfl (.inl rfl)) (pgs_cons (pg_name (i := 2) sc_needs.nd rfl (.inl rfl)) (pgs_nil)))))
      (pss_cons (ps_setLc (i := 3) rfl sc_needs.nd rfl rfl (sw_true rfl rfl rfl (by decide +kernel)) (pi_listK (K := K) rfl (pv 2)) (blkOk_by (own := [("c", 4), ("_", 5)]) (N := ["state", "prefix", "images", "out", "c", "_"]) (sc := defScope s_needs) (by decide +kernel)) (fun _ _ _ _ _ => pg_tupK (K := K) (n := 2) rfl rfl (pgs_cons (pg_name (i := 4) sc_needs.nd rfl (.inl rfl)) (pgs_cons (pg_name (i := 5) sc_needs.nd rfl (.inl rfl)) (pgs_nil)))) (fun _ _ _ _ _ => pts_nil) (fun _ _ _ _ _ => pv 4))
      (pss_cons (ps_if (pt_cmpR op_eq (pv 1) (C8.pe_gc rfl T.s_EMPTY) (by first | exact nomark _ | rfl))
       (pss_one (ps_set (i := 3) sc_needs.nd rfl (.inl rfl) (pe_op op_cat (pe_lst (pa_cons (pe_str) (pa_nil))) (pv 3))))
       (pss_nil))
      (pss_one (ps_ret (pv 3)))))), ?_⟩)
  · intro l d h
    obtain ⟨s, rfl, rfl⟩ := h
    rfl
  · intro l d h
    obtain ⟨s, rfl, rfl⟩ := h
    have inj : ∀ p q : Nat × Tx, PyData.tuple [pS [p.1], pS p.2] = PyData.tuple [pS [q.1], pS q.2] → pS [p.1] = pS [q.1] := fun p q e => by
      injection e with e; injection e with e
    have hok := codeO_ok s
    have eI : (codeO s).2.map (fun q => pS [q.1]) = (images s.p).map fun c => pS [c] := by
      show ((images s.p).map fun c => (c, leastR c)).map (fun q => pS [q.1]) = _
      rw [List.map_map]; rfl
    refine sd_ifq (et_not (et_B (ev_call (ea_cons (ev_var rfl) (ea_nil)) ⟨s, rfl, rfl⟩))) (fun h0 => ?_) (fun h0 => ?_)
    · have h0 : isOpen s = false := by simpa using h0
      refine sd_seqR (sd_is (sd_ret (ev_lst ea_nil)) ?_)
      unfold needL
      rw [h0]; rfl
    · have h0 : isOpen s = true := by simpa using h0
      refine sd_nextq (sd_seq (sd_asg (ev_call (ea_cons (ev_strS TEXT) (ea_cons (ev_var rfl) (ea_nil))) ⟨s, rfl, h0, rfl⟩) tgt_tup2) ?_)
      refine sd_seq (sd_set (ev_lcL (codeO s).2 (fun q => PyData.tuple [pS [q.1], pS q.2]) (fun q => pS [q.1]) _ (ev_var rfl) (by have := hok.2.1; omega) (by decide) (fun p _ q _ e => inj p q e) (fun q hq => ⟨tgt_tup2, ev_var rfl⟩))) ?_
      rw [eI]
      have hil : (images s.p).length ≤ 4 := by cases s.p <;> decide
      refine sd_ifq (et_test (ev_op (ev_var rfl) (ev_str) rv_eqT)) (fun h1 => ?_) (fun h1 => ?_)
      · have h1 : (codeO s).1 = [38, 59] := of_decide_eq_true h1
        refine sd_seq (sd_set (ev_op (ev_lst (ea_cons (ev_strS []) (ea_nil))) (ev_var rfl) (rv_cat (by simp; omega)))) (sd_is (sd_ret (ev_var rfl)) ?_)
        unfold needL
        rw [if_pos h0, if_pos h1, List.map_append, List.map_map]
        rfl
      · have h1 : ¬ (codeO s).1 = [38, 59] := of_decide_eq_false h1
        refine sd_nextq (sd_is (sd_ret (ev_var rfl)) ?_)
        unfold needL
        rw [if_pos h0, if_neg h1, List.nil_append, List.map_map]
        rfl

end
end K49

set_option Elab.async false
set_option linter.all false
set_option maxRecDepth 100000
/-! K49Cp: completion, trial. -/
namespace K49
open PySem L2
section
variable {K : PySem.W.Frag} {ds : List (Option PyData)} {te te1 elt : TE}
theorem Grow.keepN {G H G' H' : Hp} (g : Grow G H G' H') {D : Addr} {o : HO} (h : H D = some o) (n : G D = none) : G' D = none := by
  cases q : G' D with
  | none => rfl
  | some u => have z := g.nw D n (by rw [q]; exact fun z => nomatch z); rw [h] at z; cases z
theorem ev_lc2 {l : List Tx} {a : Tx} {i j : Nat} {vs vs1 : List Nat} (f : Tx → Nat → PyData) (h : Ev K te ds (.list (l.map pS))) (hi : i ∈ vs) (hj : j ∈ vs1) (hl : l.length * a.length ≤ 1000000)
    (h1 : ∀ r ∈ l, Ev K te1 ((wipeD ds vs).set i (some (pS r))) (pS a)) (turn : ∀ r ∈ l, ∀ c ∈ a, Ev K elt ((wipeD ((wipeD ds vs).set i (some (pS r))) vs1).set j (some (pS [c]))) (f r c)) :
    Ev K (tLc2 (iList K te) (gName i) tYes (iStr te1) (gName j) tYes elt vs vs1) ds (.list (l.flatMap fun r => a.map (f r))) := EvM.seal fun σ G H e en Q q => by
  refine src_lst h σ G H e en _ fun J G1 H1 g1 w1 D hD => ?_
  have hD0 : H D = none := g1.h.non_ hD
  have hDG : G1 D = none := g1.gh.non_ hD
  have fl : ∀ n, n ≤ l.length → ((l.take n).flatMap fun r => a.map (f r)).length = n * a.length := fun n => by
    induction n with
    | zero => intro _; simp
    | succ n ih =>
      intro hn
      have en : l[n]? = some l[n] := List.getElem?_eq_getElem hn
      rw [flat_take _ en, List.length_append, ih (by omega), List.length_map, Nat.succ_mul]
  have fb : ∀ n, n ≤ l.length → n * a.length ≤ 1000000 := fun n hn => Nat.le_trans (Nat.mul_le_mul_right _ hn) hl
  refine ⟨fun n m H2 => m = l.length - n ∧ n ≤ l.length ∧ ∃ G2 acc, Ex G1 G2 ∧ Grow G H G2 H2 ∧ H2 D = some (.lst acc) ∧ G2 D = none ∧ IsL K G2 acc ((l.take n).flatMap fun r => a.map (f r)),
    ⟨l.length, by omega, Nat.zero_le _, G1, [], Ex.refl _, g1.mut hDG hD0, upd_same, hDG, .nil⟩, ?_⟩
  rintro n m H2 ⟨rfl, hn, G2, ac, e2, g2, h2, n2, r2⟩
  have w2 := w1.mono e2
  by_cases hlt : n < l.length
  · have hlt' : n < (l.map pS).length := by rw [List.length_map]; exact hlt
    have eln : l[n]? = some l[n] := List.getElem?_eq_getElem hlt
    refine .inr ⟨w2.go n G2 H2 (Ex.refl _) g2.gh hlt', fun H3 => n + 1 ≤ l.length ∧ ∃ G3 acc, Ex G1 G3 ∧ Grow G H G3 H3 ∧ H3 D = some (.lst acc) ∧ G3 D = none ∧ IsL K G3 acc ((l.take (n + 1)).flatMap fun r => a.map (f r)),
      fun H3 ⟨l3, z⟩ => ⟨l.length - (n + 1), by omega, rfl, l3, z⟩, fun v H' y => ?_⟩
    obtain ⟨rfl, x, hx, r⟩ := w2.yld n G2 H2 v H' (Ex.refl _) g2.gh hlt' y
    rw [List.getElem?_map, eln] at hx
    cases hx
    have en2 : EnvI K G2 (L2.wipe σ vs) (wipeD ds vs) := (en.mono (g1.g.trans e2)).wipe vs
    refine tgt_name _ G2 _ v g2.gh r en2 _ fun σ3 en3 k3 l3 => ⟨wipe_eq (by rw [l3, wipe_length]) fun k hk => k3 k fun z => hk (by rw [List.mem_singleton.mp z]; exact hi), ?_⟩
    refine et_yes σ3 G2 _ g2.gh en3 _ fun G4 H4 g4 => ?_
    rw [if_pos rfl]
    have hm := List.mem_of_getElem? eln
    refine src_str (h1 _ hm) σ3 G4 H4 g4.gh (en3.mono g4.g) _ fun J1 G5 H5 g5 w5 => ?_
    have g25 := g4.trans g5
    refine ⟨fun k m H6 => m = a.length - k ∧ k ≤ a.length ∧ ∃ G6 acc, Ex G5 G6 ∧ Grow G H G6 H6 ∧ H6 D = some (.lst acc) ∧ G6 D = none ∧ IsL K G6 acc (((l.take n).flatMap fun r => a.map (f r)) ++ (a.take k).map (f l[n])),
      ⟨a.length, by omega, Nat.zero_le _, G5, ac, Ex.refl _, g2.trans g25, g25.h _ _ h2, g25.keepN h2 n2, by simpa using r2.up g25.g⟩, ?_⟩
    rintro k m H6 ⟨rfl, hk, G6, ac6, e6, g6, h6, n6, r6⟩
    have w6 := w5.mono e6
    have hcl : (chs a).length = a.length := by unfold chs; rw [List.length_map]
    by_cases hkl : k < a.length
    · refine .inr ⟨w6.go k G6 H6 (Ex.refl _) g6.gh (by rw [hcl]; exact hkl), fun H7 => k + 1 ≤ a.length ∧ ∃ G7 acc, Ex G5 G7 ∧ Grow G H G7 H7 ∧ H7 D = some (.lst acc) ∧ G7 D = none ∧ IsL K G7 acc (((l.take n).flatMap fun r => a.map (f r)) ++ (a.take (k + 1)).map (f l[n])),
        fun H7 ⟨l7, z⟩ => ⟨a.length - (k + 1), by omega, rfl, l7, z⟩, fun u H' y => ?_⟩
      obtain ⟨rfl, x, hx, ru⟩ := w6.yld k G6 H6 u H' (Ex.refl _) g6.gh (by rw [hcl]; exact hkl) y
      have eak : a[k]? = some a[k] := List.getElem?_eq_getElem hkl
      unfold chs at hx
      rw [List.getElem?_map, eak] at hx
      cases hx
      have en6 : EnvI K G6 (L2.wipe σ3 vs1) (wipeD ((wipeD ds vs).set i (some (pS l[n]))) vs1) := (en3.mono (g25.g.trans e6)).wipe vs1
      refine tgt_name _ G6 _ u g6.gh ru en6 _ fun σ7 en7 k7 l7 => ⟨wipe_eq (by rw [l7, wipe_length]) fun z hz => k7 z fun y => hz (by rw [List.mem_singleton.mp y]; exact hj), ?_⟩
      refine et_yes σ7 G6 _ g6.gh en7 _ fun G8 H8 g8 => ?_
      rw [if_pos rfl]
      refine turn _ hm _ (List.mem_of_getElem? eak) σ7 G8 H8 g8.gh (en7.mono g8.g) _ fun x9 G9 H9 g9 r9 => ?_
      have g69 := g8.trans g9
      have hlen : ac6.length < 1000001 := by
        rw [r6.len, List.length_append, fl n hn, List.length_map, List.length_take]
        have z := fb (n + 1) (by omega)
        rw [Nat.succ_mul] at z
        omega
      refine ⟨ac6, g69.h _ _ h6, szl (by omega), hkl, G9, ac6 ++ [x9], e6.trans g69.g, (g6.trans g69).mut (g69.keepN h6 n6) hD0, upd_same, g69.keepN h6 n6, ?_⟩
      rw [List.take_add_one, eak, Option.toList_some, List.map_append, ← List.append_assoc]
      exact (r6.up g69.g).app (.one r9)
    · have ek : k = a.length := by omega
      subst ek
      refine .inl ⟨w6.stop _ G6 H6 (Ex.refl _) g6.gh (by rw [hcl]; exact Nat.le_refl _), hlt, G6, ac6, (e2.trans g25.g).trans e6, g6, h6, n6, ?_⟩
      rw [flat_take _ eln]
      rw [List.take_length] at r6
      exact r6
  · have en' : n = l.length := by omega
    subst en'
    refine .inl ⟨w2.stop _ G2 H2 (Ex.refl _) g2.gh (by rw [List.length_map]; exact Nat.le_refl _), ?_⟩
    rw [List.take_length] at r2
    exact q D ac G2 H2 g2 h2 n2 hD0 r2
/-- while True, until the turn n hands back -/
theorem sd_whileT {c : TT} {tb : TS} {d : PyData} (E : Nat → List (Option PyData)) (n : Nat) (h0 : Wk ds (E 0)) (hc : ∀ j, j ≤ n → EvT K c (E j) true) (turn : ∀ j, j < n → SD K tb (E j) none (.nx (E (j + 1)) none))
    (fin : SD K tb (E n) none (.ret d)) : SD K (tWhile c tb) ds none (.ret d) := fun σ G0 H0 G H D s q => by
  refine ⟨fun m σ2 H2 => ∃ i, m = n - i ∧ i ≤ n ∧ ∃ G2, SI K G0 H0 G2 H2 σ2 (E i) none, ⟨n, 0, by omega, Nat.zero_le _, G, s.gr, s.en.weak h0, trivial⟩, ?_⟩
  rintro m σ2 H2 ⟨i, rfl, hi, G2, s2⟩
  refine hc i hi σ2 G2 H2 s2.gr.gh s2.en _ fun G3 H3 g3 => ?_
  rw [if_pos rfl]
  have s3 := s2.go g3
  by_cases hlt : i < n
  · refine ⟨fun σ4 H4 => i + 1 ≤ n ∧ ∃ G4, SI K G0 H0 G4 H4 σ4 (E (i + 1)) none, fun σ4 H4 ⟨l4, z⟩ => ⟨n - (i + 1), by omega, i + 1, rfl, l4, z⟩, ?_⟩
    exact turn i hlt σ2 G0 H0 G3 H3 _ s3 fun σ4 G4 H4 e4 s4 => ⟨hlt, G4, s4⟩
  · have ei : i = n := by omega
    subst ei
    exact ⟨fun _ _ => False, fun _ _ z => z.elim, fin σ2 G0 H0 G3 H3 _ s3 q⟩
end
/-! ### completion's rows -/
def lgOf (rows : List Tx) : List Tx := rows.flatMap fun r => SIGN.map fun c => r ++ [c]
def isRef (p r : Tx) : Bool := (refT (p ++ r)).isSome
def rowsAt (p : Tx) : Nat → List Tx
  | 0 => [[]]
  | n + 1 => (lgOf (rowsAt p n)).filter fun r => isBeg (p ++ r)
theorem compl_at (p X : Tx) : ∀ (m j : Nat), complF m p (rowsAt p j) = some X → ∃ n, j ≤ n ∧ n < j + m ∧ (∀ i, j ≤ i → i < n → (lgOf (rowsAt p i)).find? (isRef p) = none) ∧ (lgOf (rowsAt p n)).find? (isRef p) = some X
  | 0, j, h => by cases h
  | m + 1, j, h => by
    have h : (match (lgOf (rowsAt p j)).find? (isRef p) with | some r => some r | none => complF m p (rowsAt p (j + 1))) = some X := h
    cases e : (lgOf (rowsAt p j)).find? (isRef p) with
    | some r =>
      rw [e] at h
      cases h
      exact ⟨j, Nat.le_refl _, by omega, fun i h1 h2 => absurd h2 (by omega), e⟩
    | none =>
      rw [e] at h
      obtain ⟨n, h1, h2, h3, h4⟩ := compl_at p X m (j + 1) h
      refine ⟨n, by omega, by omega, fun i a b => ?_, h4⟩
      by_cases q : i = j
      · rw [q]; exact e
      · exact h3 i (by omega) b
theorem lgOf_len (rows : List Tx) : (lgOf rows).length = rows.length * 18 := by
  unfold lgOf
  induction rows with
  | nil => rfl
  | cons r rows ih =>
    rw [List.flatMap_cons, List.length_append, ih, List.length_map, List.length_cons, Nat.succ_mul]
    have e : SIGN.length = 18 := rfl
    omega
theorem lgOf_mem {rows : List Tx} {n : Nat} (h : ∀ r ∈ rows, r.length ≤ n) : ∀ r ∈ lgOf rows, r.length ≤ n + 1 := fun r hr => by
  obtain ⟨a, ha, hb⟩ := List.mem_flatMap.mp hr
  obtain ⟨c, _, rfl⟩ := List.mem_map.mp hb
  have := h a ha
  simp
  omega
theorem rowsAt_len (p : Tx) : ∀ n, (rowsAt p n).length ≤ 18 ^ n ∧ ∀ r ∈ rowsAt p n, r.length ≤ n
  | 0 => ⟨by simp [rowsAt], fun r hr => by simp [rowsAt] at hr; simp [hr]⟩
  | n + 1 => by
    obtain ⟨h1, h2⟩ := rowsAt_len p n
    refine ⟨?_, fun r hr => lgOf_mem h2 r (List.mem_filter.mp hr).1⟩
    show ((lgOf (rowsAt p n)).filter _).length ≤ _
    refine Nat.le_trans (List.length_filter_le _ _) ?_
    rw [lgOf_len, Nat.pow_succ]
    exact Nat.mul_le_mul_right _ h1
theorem rowsAt_le (p : Tx) {n : Nat} (h : n ≤ 3) : (rowsAt p n).length ≤ 5832 := by
  refine Nat.le_trans (rowsAt_len p n).1 ?_
  exact Nat.le_trans (Nat.pow_le_pow_right (by decide) h) (by decide)
def Is_ref (p r : Tx) : Prop := R_reference_text [pS (p ++ r)] (optD (refT (p ++ r)))
def R_completion : List PyData → PyData → Prop := fun l d => ∃ p : Tx, l = [pS p] ∧ p.length ≤ 1000 ∧ (∃ X, complF 4 p [[]] = some X) ∧ d = pS (compl p)
def R_trial : List PyData → PyData → Prop := fun l d => ∃ (s : Sta) (n : Option Nat), l = [s.d, needD n] ∧ n ∈ needL s ∧ s.pd.length ≤ 1000 ∧ (n = none → s.p ≠ .equals → STAL.lookup s.pd = none → ∃ X, complF 4 s.pd [[]] = some X) ∧ d = pS (trialT s n)
section
variable {P : Program} {w : World} {K : PySem.W.Frag} {mg : Str → Option Value} {base : Heap}

theorem sc_completion : FnScope ["pending", "rows", "longer", "row", "c"] ["pending"] (defScope s_completion) := ⟨rfl, rfl, rfl, by decide +kernel, rfl, by decide +kernel, by decide +kernel⟩
theorem cal_completion (T : Fx K w mg) (c_reference_text : CalR P w K mg base 2 "reference_text" R_reference_text) (c_is_beginning : CalR P w K mg base 7 "is_beginning" R_is_beginning) : CalR P w K mg base 8 "completion" R_completion := by
  refine cal_of T.f_completion sc_completion (fun _ _ _ _ _ _ us hl => match us, hl with | [_], _ => rfl) ?_ (fun f cdv A outer s H E hr => ⟨_, pss_cons (ps_set (i := 1) sc_completion.nd rfl (.inl rfl) (pe_lst (pa_cons pe_str pa_nil)))
    (pss_one (ps_while PassesOwn.never (pt_val pe_bl) (pss_cons (ps_setLc2 (i := 2) rfl sc_completion.nd rfl rfl (sw_true rfl rfl rfl (by decide +kernel)) (pi_listK (K := K) rfl (pv 1)) (blkOk_by (own := [("row", 3), ("c", 4)]) (N := ["pending", "rows", "longer", "row", "c"]) (sc := defScope s_completion) (by decide +kernel)) (vs1 := [4]) (by decide) (fun _ _ _ _ _ => pg_name (i := 3) sc_completion.nd rfl (.inl rfl)) (fun _ _ _ _ _ => pts_nil) (fun _ _ _ _ _ => pi_str (C8.pe_gc rfl T.s_SIGNS)) (fun _ _ _ _ _ => pg_name (i := 4) sc_completion.nd rfl (.inl rfl)) (fun _ _ _ _ _ => pts_nil) (fun _ _ _ _ _ => pe_op op_add_str (pv 3) (pv 4)))
      (pss_cons (ps_for PassesOwn.never rfl (pi_listK (K := K) rfl (pv 2)) (pg_name (i := 3) sc_completion.nd rfl (.inl rfl)) (pss_one (ps_if (pt_cmpR op_notN (C8.pe_c c_reference_text hr (by omega) rfl (pa_cons (pe_op op_add_str (pv 0) (pv 3)) (pa_nil))) (pe_non) (by first | exact nomark _ | rfl)) (pss_one (ps_ret (pv 3))) pss_nil)))
      (pss_one (ps_setLc (i := 1) rfl sc_completion.nd rfl rfl (sw_true rfl rfl rfl (by decide +kernel)) (pi_listK (K := K) rfl (pv 2)) (blkOk_by (own := [("row", 3)]) (N := ["pending", "rows", "longer", "row", "c"]) (sc := defScope s_completion) (by decide +kernel)) (fun _ _ _ _ _ => pg_name (i := 3) sc_completion.nd rfl (.inl rfl)) (fun _ _ _ _ _ => pts_one (pt_val (C8.pe_c c_is_beginning hr (by omega) rfl (pa_cons (pe_op op_add_str (pv 0) (pv 3)) (pa_nil))))) (fun _ _ _ _ _ => pv 3))))))), ?_⟩)
  · intro l d h
    obtain ⟨p, rfl, hl, hX, rfl⟩ := h
    rfl
  · intro l d h
    obtain ⟨p, rfl, hl, ⟨X, hX⟩, rfl⟩ := h
    have eX : compl p = X := by unfold compl; rw [hX]; rfl
    rw [eX]
    obtain ⟨n, _, hn, hbefore, hat⟩ := compl_at p X 4 0 hX
    have hn3 : n ≤ 3 := by omega
    have refl1 : ∀ r : Tx, r.length ≤ 5 → Is_ref p r := fun r hr => ⟨_, rfl, by rw [List.length_append]; omega, rfl⟩
    have injS : ∀ a b : Tx, pS a = pS b → a = b := fun a b e => by injection e with e; exact SX.S_inj e
    have eL : ∀ rows : List Tx, (rows.flatMap fun r => SIGN.map fun c => pS (r ++ [c])) = (lgOf rows).map pS := fun rows => by
      unfold lgOf
      rw [List.map_flatMap]
      simp only [List.map_map]
      rfl
    refine sd_seq (sd_set (ev_lst (ea_cons (ev_strS []) ea_nil))) ?_
    refine sd_whileT (fun j => [some (pS p), some (.list ((rowsAt p j).map pS)), none, none, none]) n (Wk.refl _) (fun j hj => et_B ev_bl) (fun j hj => ?_) ?_
    · have hr1 := rowsAt_le p (n := j) (by omega)
      have hr2 := (rowsAt_len p j).2
      have hlg := lgOf_len (rowsAt p j)
      have hlm := lgOf_mem hr2
      refine sd_seq (sd_set (ev_is (ev_lc2 (l := rowsAt p j) (a := SIGN) (fun r c => pS (r ++ [c])) (ev_var rfl) (by decide) (by decide) (by have e : SIGN.length = 18 := rfl; rw [e]; omega) (fun r hr => ev_str) (fun r hr c hc => ev_op (ev_var rfl) (ev_var rfl) (rv_catS (by have := hr2 r hr; simp; omega)))) (congrArg PyData.list (eL _)))) ?_
      refine sd_searchq (lgOf (rowsAt p j)) pS _ _ (isRef p) pS (src_lst (ev_var rfl)) (Wk.refl _) (fun _ _ z => nomatch z) (fun a => tgt_name) (fun a ha => sd_ifS (et_test (ev_op (ev_call (ea_cons (ev_op (ev_var rfl) (ev_var rfl) (rv_catS (by have := hlm a ha; omega))) (ea_nil)) (refl1 a (by have := hlm a ha; omega))) (ev_non) (rv_notN isN_opt))) (fun _ => sd_ret (ev_var rfl)) (fun _ => sd_back rfl)) (fun a h => by rw [hbefore j (Nat.zero_le _) hj] at h; cases h) (fun hm => ?_)
      exact sd_weak (sd_set (ev_lcF (lgOf (rowsAt p j)) pS (fun r => isBeg (p ++ r)) pS _ (src_lst (ev_var rfl)) (by rw [hlg]; omega) (by decide) (fun a _ b _ e => by rw [injS a b e]; exact ⟨rfl, rfl⟩) (fun a ha => ⟨tgt_name, et_B (ev_call (ea_cons (ev_op (ev_var rfl) (ev_var rfl) (rv_catS (by have := hlm a ha; omega))) (ea_nil)) ⟨_, rfl, by rw [List.length_append]; have := hlm a ha; omega, rfl⟩), fun _ => ev_var rfl⟩))) (.same _ (.same _ (.any _ (.same _ (.same _ .nil)))))
    · have hr1 := rowsAt_le p (n := n) hn3
      have hr2 := (rowsAt_len p n).2
      have hlg := lgOf_len (rowsAt p n)
      have hlm := lgOf_mem hr2
      refine sd_seq (sd_set (ev_is (ev_lc2 (l := rowsAt p n) (a := SIGN) (fun r c => pS (r ++ [c])) (ev_var rfl) (by decide) (by decide) (by have e : SIGN.length = 18 := rfl; rw [e]; omega) (fun r hr => ev_str) (fun r hr c hc => ev_op (ev_var rfl) (ev_var rfl) (rv_catS (by have := hr2 r hr; simp; omega)))) (congrArg PyData.list (eL _)))) ?_
      refine sd_searchq (lgOf (rowsAt p n)) pS _ _ (isRef p) pS (src_lst (ev_var rfl)) (Wk.refl _) (fun _ _ z => nomatch z) (fun a => tgt_name) (fun a ha => sd_ifS (et_test (ev_op (ev_call (ea_cons (ev_op (ev_var rfl) (ev_var rfl) (rv_catS (by have := hlm a ha; omega))) (ea_nil)) (refl1 a (by have := hlm a ha; omega))) (ev_non) (rv_notN isN_opt))) (fun _ => sd_ret (ev_var rfl)) (fun _ => sd_back rfl)) (fun a h => by rw [hat] at h; cases h; rfl) (fun hm => by rw [hat] at hm; cases hm)

theorem tr_eq {s : Sta} (h : s.p = .equals) : Out.ret (pS [34]) = Out.ret (pS (trialT s none)) := by
  unfold trialT; simp only; rw [if_pos h]
theorem tr_st {s : Sta} (h : ¬ s.p = .equals) (h2 : ((dS STAL).lookup (SX.S s.pd)).isSome = true) : Out.ret (pS ((STAL.lookup s.pd).getD [])) = Out.ret (pS (trialT s none)) := by
  rw [dS_look] at h2
  unfold trialT
  simp only
  rw [if_neg h]
  obtain ⟨p, el, pd⟩ := s
  have h2 : ((STAL.lookup pd).map fun v => V.str (SX.S v)).isSome = true := h2
  show Out.ret (pS ((STAL.lookup pd).getD [])) = _
  by_cases h3 : pd = [60]
  · subst h3; rfl
  by_cases h4 : pd = [60, 47]
  · subst h4; rfl
  by_cases h5 : pd = [60, 33]
  · subst h5; rfl
  by_cases h6 : pd = [60, 33, 45]
  · subst h6; rfl
  exfalso
  have e : STAL.lookup pd = none := by
    simp [STAL, List.lookup, beq_eq_false_iff_ne.mpr h3, beq_eq_false_iff_ne.mpr h4, beq_eq_false_iff_ne.mpr h5, beq_eq_false_iff_ne.mpr h6]
  rw [e] at h2; cases h2
theorem tr_no {s : Sta} (h2 : ((dS STAL).lookup (SX.S s.pd)).isSome = false) : STAL.lookup s.pd = none := by
  rw [dS_look] at h2
  cases e : STAL.lookup s.pd with
  | none => rfl
  | some v => rw [e] at h2; cases h2
theorem tr_co {s : Sta} (h : ¬ s.p = .equals) (h2 : ((dS STAL).lookup (SX.S s.pd)).isSome = false) : Out.ret (pS (compl s.pd)) = Out.ret (pS (trialT s none)) := by
  have e := tr_no h2
  unfold trialT
  simp only
  rw [if_neg h, if_neg, if_neg, if_neg]
  · rintro z; rw [z] at e; cases e
  · rintro z; rw [z] at e; cases e
  · rintro (z | z) <;> (rw [z] at e; cases e)

theorem sc_trial : FnScope ["state", "need"] ["state", "need"] (defScope s_trial) := ⟨rfl, rfl, rfl, by decide +kernel, rfl, by decide +kernel, by decide +kernel⟩
theorem cal_trial (T : Fx K w mg) (c_needs : CalR P w K mg base 4 "needs" R_needs) (c_completion : CalR P w K mg base 8 "completion" R_completion)  : CalR P w K mg base 9 "trial" (R_trial) := by
  refine cal_of T.f_trial sc_trial (fun _ _ _ _ _ _ us hl => match us, hl with | [_, _], _ => rfl) ?_ (fun f cdv A outer s H E hr => ⟨_, pss_cons (ps_if (pt_cmpR (notIn_seqK (K := K) rfl) (pv 1) (C8.pe_c c_needs hr (by omega) rfl (pa_cons (pv 0) (pa_nil))) (by first | exact nomark _ | rfl))
       (pss_one (ps_never))
       (pss_nil))
      (pss_cons (ps_if (pt_cmpR op_eq (pv 1) (pe_str) (by first | exact nomark _ | rfl))
       (pss_one (ps_ret (pe_str)))
       (pss_nil))
      (pss_cons (ps_if (pt_cmpR op_eq (pv 1) (pe_str) (by first | exact nomark _ | rfl))
       (pss_one (ps_ret (pe_str)))
       (pss_nil))
      (pss_cons (ps_if (pt_cmpR op_ne (pv 1) (pe_str) (by first | exact nomark _ | rfl))
       (pss_one (ps_ret (pv 1)))
       (pss_nil))
      (pss_cons (ps_if (pt_cmpR op_eq (pe_ix (ix_tupK (K := K) rfl) (pv 0) (pe_int) (fun _ _ => rfl)) (pe_str) (by first | exact nomark _ | rfl))
       (pss_one (ps_ret (pe_str)))
       (pss_nil))
      (pss_cons (ps_if (pt_cmpR (op_inD T.d_STARTS) (pe_ix (ix_tupK (K := K) rfl) (pv 0) (pe_int) (fun _ _ => rfl)) (C8.pe_gc rfl T.g_STARTS) (by first | exact nomark _ | rfl))
       (pss_one (ps_ret (pe_ix (ix_D T.d_STARTS) (C8.pe_gc rfl T.g_STARTS) (pe_ix (ix_tupK (K := K) rfl) (pv 0) (pe_int) (fun _ _ => rfl)) (fun _ _ => rfl))))
       (pss_nil))
      (pss_one (ps_ret (C8.pe_c c_completion hr (by omega) rfl (pa_cons (pe_ix (ix_tupK (K := K) rfl) (pv 0) (pe_int) (fun _ _ => rfl)) (pa_nil)))))))))), ?_⟩)
  · intro l d h
    obtain ⟨s, n, rfl, hn, hl, hcm, rfl⟩ := h
    rfl
  · intro l d h
    obtain ⟨s, n, rfl, hn, hl, hcm, rfl⟩ := h
    cases n with
    | none =>
      exact sd_ifq (et_test (ev_op (ev_var rfl) (ev_call (ea_cons (ev_var rfl) (ea_nil)) ⟨s, rfl, rfl⟩) (rv_niLs ((needL s).map needT) (by rw [List.map_map]; rfl))))
             (fun h0 => absurd h0 (by rw [decide_eq_true (List.mem_map_of_mem hn)]; decide))
             (fun h0 => sd_nextq (sd_ifq (et_test (ev_op (ev_var rfl) (ev_strS [60]) rv_eqT))
             (fun h1 => absurd h1 (by decide))
             (fun h1 => sd_nextq (sd_ifq (et_test (ev_op (ev_var rfl) (ev_strS [38]) rv_eqT))
             (fun h2 => absurd h2 (by decide))
             (fun h2 => sd_nextq (sd_ifq (et_test (ev_op (ev_var rfl) (ev_strS []) rv_neT))
             (fun h3 => absurd h3 (by decide))
             (fun h3 => sd_nextq (sd_ifq (et_test (ev_op (ev_op (ev_var rfl) (ev_int) (rv_ixT rfl)) (ev_strS [101, 113, 117, 97, 108, 115]) rv_eqT))
             (fun h4 => sd_seqR (sd_is (sd_ret (ev_strS [34])) (tr_eq (by simpa [pt_equals] using h4))))
             (fun h4 => sd_nextq (sd_ifq (et_test (ev_inD (ev_op (ev_var rfl) (ev_int) (rv_ixT rfl))))
             (fun h5 => sd_seqR (sd_is (sd_ret (ev_getD (ev_op (ev_var rfl) (ev_int) (rv_ixT rfl)) (lookG h5) (fun _ => .str _))) (tr_st (by simpa [pt_equals] using h4) h5)))
             (fun h5 => sd_nextq (sd_is (sd_ret (ev_call (ea_cons (ev_op (ev_var rfl) (ev_int) (rv_ixT rfl)) (ea_nil)) ⟨_, rfl, hl, hcm rfl (by simpa [pt_equals] using h4) (tr_no h5), rfl⟩)) (tr_co (by simpa [pt_equals] using h4) h5)))))))))))))
    | some c =>
      exact sd_ifq (et_test (ev_op (ev_var rfl) (ev_call (ea_cons (ev_var rfl) (ea_nil)) ⟨s, rfl, rfl⟩) (rv_niLs ((needL s).map needT) (by rw [List.map_map]; rfl))))
             (fun h0 => absurd h0 (by rw [decide_eq_true (List.mem_map_of_mem hn)]; decide))
             (fun h0 => sd_nextq (sd_ifq (et_test (ev_op (ev_var rfl) (ev_strS [60]) rv_eqT))
             (fun h1 => sd_seqR (sd_is (sd_ret (ev_strS [60, 98])) (by simp [needT] at h1; subst h1; rfl)))
             (fun h1 => sd_nextq (sd_ifq (et_test (ev_op (ev_var rfl) (ev_strS [38]) rv_eqT))
             (fun h2 => sd_seqR (sd_is (sd_ret (ev_strS [38, 108, 116, 59])) (by simp [needT] at h1 h2; subst h2; rfl)))
             (fun h2 => sd_nextq (sd_ifq (et_test (ev_op (ev_var rfl) (ev_strS []) rv_neT))
             (fun h3 => sd_seqR (sd_is (sd_ret (ev_var rfl)) (by simp [needT] at h1 h2; unfold trialT; simp only; rw [if_neg h1, if_neg h2]; rfl)))
             (fun h3 => absurd h3 (by simp [needT]))))))))

end
end K49

set_option Elab.async false
set_option linter.all false
set_option maxRecDepth 100000
/-! K49Pc: plain: every beginning completes within four signs; what a completion reads as. -/
namespace K49
theorem compl_some {pd w : Tx} (hs : ∀ c ∈ w, c ∈ SIGN) (hr : isRef pd w = true) (hb : ∀ k, 0 < k → k < w.length → isBeg (pd ++ w.take k) = true) :
    ∀ (m j : Nat), w.length ≤ j + m → j < w.length → w.take j ∈ rowsAt pd j → ∃ X, complF m pd (rowsAt pd j) = some X
  | 0, j, h1, h2, _ => absurd h2 (by omega)
  | m + 1, j, h1, h2, h3 => by
    show ∃ X, (match (lgOf (rowsAt pd j)).find? (isRef pd) with | some r => some r | none => complF m pd (rowsAt pd (j + 1))) = some X
    have e1 : w.take (j + 1) = w.take j ++ [w[j]] := by rw [List.take_add_one, List.getElem?_eq_getElem h2]; rfl
    have m1 : w.take (j + 1) ∈ lgOf (rowsAt pd j) := by
      rw [e1]
      exact List.mem_flatMap.mpr ⟨_, h3, List.mem_map.mpr ⟨w[j], hs _ (List.getElem_mem h2), rfl⟩⟩
    cases e : (lgOf (rowsAt pd j)).find? (isRef pd) with
    | some r => exact ⟨r, rfl⟩
    | none =>
      by_cases hl : j + 1 = w.length
      · rw [hl, List.take_length] at m1
        exact absurd hr (List.find?_eq_none.mp e w m1)
      · exact compl_some hs hr hb m (j + 1) (by omega) (by omega) (List.mem_filter.mpr ⟨m1, hb (j + 1) (by omega) (by omega)⟩)
theorem leadsF_mono : ∀ {k : Nat} {t : Tx}, leadsF k t = true → leadsF (k + 1) t = true
  | 0, t, h => by cases h
  | k + 1, t, h => by
    unfold leadsF at h ⊢
    by_cases hn : isNum t = true
    · rw [if_pos hn] at h ⊢
      by_cases hc : (chrOf (numOf t)).isSome = true
      · rw [if_pos hc]
      · rw [if_neg hc] at h ⊢
        obtain ⟨d, hd, h⟩ := List.any_eq_true.mp h
        exact List.any_eq_true.mpr ⟨d, hd, leadsF_mono h⟩
    · rw [if_neg hn] at h; cases h
theorem leadsF_le {k n : Nat} {t : Tx} (h : leadsF k t = true) (hk : k ≤ n) : leadsF n t = true := by
  induction n with
  | zero => have e : k = 0 := by omega
            subst e; exact h
  | succ n ih =>
    by_cases e : k = n + 1
    · subst e; exact h
    · exact leadsF_mono (ih (by omega))
/-- the digits that lead to a sign -/
theorem leads_word : ∀ (k : Nat) (t : Tx), leadsF k t = true → k ≤ 5 → ∃ w, (∀ c ∈ w, c ∈ DIGS) ∧ isNum (t ++ w) = true ∧ (chrOf (numOf (t ++ w))).isSome = true ∧ ∀ j, j ≤ w.length → leads (t ++ w.take j) = true
  | 0, t, h, _ => by cases h
  | k + 1, t, h, hk => by
    have h5 : leads t = true := leadsF_le h hk
    unfold leadsF at h
    by_cases hn : isNum t = true
    · rw [if_pos hn] at h
      by_cases hc : (chrOf (numOf t)).isSome = true
      · refine ⟨[], fun c hc => (by cases hc), by rw [List.append_nil]; exact hn, by rw [List.append_nil]; exact hc, fun j hj => by simp; exact h5⟩
      · rw [if_neg hc] at h
        obtain ⟨d, hd, h⟩ := List.any_eq_true.mp h
        obtain ⟨w, w1, w2, w3, w4⟩ := leads_word k (t ++ [d]) h (by omega)
        rw [List.append_assoc] at w2 w3
        refine ⟨d :: w, fun c hc => ?_, w2, w3, fun j hj => ?_⟩
        · rcases List.mem_cons.mp hc with rfl | z
          · exact hd
          · exact w1 c z
        · cases j with
          | zero => simp; exact h5
          | succ j =>
            have z := w4 j (by simpa using hj)
            rw [List.append_assoc] at z
            exact z
    · rw [if_neg hn] at h; cases h
theorem dig_sign {c : Nat} (h : c ∈ DIGS) : c ∈ SIGN := by
  simp only [DIGS, SIGN, List.mem_cons, List.not_mem_nil, or_false] at h ⊢
  omega
theorem NAMD_num (u : Tx) : NAMD.lookup ([38, 35] ++ u) = none := by
  have e1 : (([38, 35] ++ u : Tx) == [38, 59]) = false := beq_eq_false_iff_ne.mpr (fun z => by injection z with _ z; injection z with z; exact absurd z (by decide))
  have e2 : (([38, 35] ++ u : Tx) == [38, 108, 116, 59]) = false := beq_eq_false_iff_ne.mpr (fun z => by injection z with _ z; injection z with z; exact absurd z (by decide))
  have e3 : (([38, 35] ++ u : Tx) == [38, 103, 116, 59]) = false := beq_eq_false_iff_ne.mpr (fun z => by injection z with _ z; injection z with z; exact absurd z (by decide))
  have e4 : (([38, 35] ++ u : Tx) == [38, 97, 109, 112, 59]) = false := beq_eq_false_iff_ne.mpr (fun z => by injection z with _ z; injection z with z; exact absurd z (by decide))
  simp only [NAMD, List.lookup, e1, e2, e3, e4]
theorem refT_num {u : Tx} (h : isNum u = true) : refT ([38, 35] ++ u ++ [59]) = chrOf (numOf u) := by
  unfold refT
  rw [List.append_assoc, NAMD_num]
  simp only
  have l : ([38, 35] ++ (u ++ [59]) : Tx).length = u.length + 3 := by simp
  have e1 : ([38, 35] ++ (u ++ [59]) : Tx).take 2 = [38, 35] := rfl
  have e2 : ([38, 35] ++ (u ++ [59]) : Tx).drop (([38, 35] ++ (u ++ [59]) : Tx).length - 1) = [59] := by
    rw [l]
    show (u ++ [59]).drop u.length = [59]
    simp
  have e3 : (([38, 35] ++ (u ++ [59]) : Tx).take (([38, 35] ++ (u ++ [59]) : Tx).length - 1)).drop 2 = u := by
    rw [l]
    show (u ++ [59]).take u.length = u
    simp
  rw [e1, e2, e3, if_pos ⟨rfl, rfl, h⟩]
theorem isBeg_num {t : Tx} (ht : t ≠ []) (h : leads t = true) : isBeg ([38, 35] ++ t) = true := by
  unfold isBeg
  by_cases q : ([38, 35] ++ t : Tx) = [38] ∨ ([38, 35] ++ t : Tx) = [38, 35]
  · rw [if_pos q]
  · rw [if_neg q, if_pos (show ([38, 35] ++ t : Tx).take 2 = [38, 35] from rfl)]; exact h
theorem compl_beg {pd : Tx} (h : isBeg pd = true) : ∃ X, complF 4 pd [[]] = some X := by
  have go : ∀ w : Tx, (∀ c ∈ w, c ∈ SIGN) → isRef pd w = true → (∀ k, 0 < k → k < w.length → isBeg (pd ++ w.take k) = true) → 0 < w.length → w.length ≤ 4 → ∃ X, complF 4 pd [[]] = some X :=
    fun w h1 h2 h3 h4 h5 => compl_some h1 h2 h3 4 0 (by omega) h4 (by simp [rowsAt])
  have h0 := h
  unfold isBeg at h
  by_cases h1 : pd = [38] ∨ pd = [38, 35]
  · rcases h1 with rfl | rfl
    · exact go [59] (by decide) (by decide) (fun k a b => absurd b (by simp; omega)) (by decide) (by decide)
    · refine go [49, 48, 59] (by decide) (by decide +kernel) (fun k a b => ?_) (by decide) (by decide)
      have b : k < 3 := b
      have hk : k = 1 ∨ k = 2 := by omega
      rcases hk with rfl | rfl <;> decide +kernel
  · rw [if_neg h1] at h
    by_cases h2 : pd.take 2 = [38, 35]
    · rw [if_pos h2] at h
      have epd : pd = [38, 35] ++ pd.drop 2 := by rw [← h2, List.take_append_drop]
      generalize pd.drop 2 = t at h epd
      subst epd
      have ht : t ≠ [] := fun z => h1 (.inr (by rw [z]; rfl))
      obtain ⟨w, w1, w2, w3, w4⟩ := leads_word 5 t h (by omega)
      have wl := isNum_len w2
      rw [List.length_append] at wl
      have tl : 0 < t.length := List.length_pos_iff.mpr ht
      refine go (w ++ [59]) (fun c hc => ?_) ?_ (fun k a b => ?_) (by simp) (by simp; omega)
      · rcases List.mem_append.mp hc with z | z
        · exact dig_sign (w1 c z)
        · rw [List.mem_singleton.mp z]; decide
      · unfold isRef
        have e : [38, 35] ++ t ++ (w ++ [59]) = [38, 35] ++ (t ++ w) ++ [59] := by simp
        rw [e, refT_num w2]; exact w3
      · have bl : k ≤ w.length := by simp at b; omega
        rw [List.take_append_of_le_length bl, List.append_assoc]
        exact isBeg_num (fun z => ht (List.append_eq_nil_iff.mp z).1) (w4 k bl)
    · rw [if_neg h2] at h
      by_cases h3 : pd = []
      · rw [if_pos h3] at h; cases h
      · rw [if_neg h3] at h
        obtain ⟨a, ha, hb⟩ := List.any_eq_true.mp h
        simp only [Bool.and_eq_true, decide_eq_true_eq] at hb
        obtain ⟨hb1, hb2⟩ := hb
        have pl : 0 < pd.length := List.length_pos_iff.mpr h3
        have lt : pd.length < a.1.length := by
          have z := take_len hb2
          by_cases e : pd.length = a.1.length
          · rw [e, List.take_length] at hb2; exact absurd hb2 hb1
          · omega
        generalize hn : pd.length = n at *
        subst hb2
        simp only [NAMD, List.mem_cons, List.not_mem_nil, or_false] at ha
        rcases ha with rfl | rfl | rfl | rfl
        · have lt : n < 2 := lt
          have e : n = 1 := by omega
          subst e
          exact absurd (.inl rfl) h1
        · have lt : n < 4 := lt
          have e : n = 1 ∨ n = 2 ∨ n = 3 := by omega
          rcases e with rfl | rfl | rfl
          · exact absurd (.inl rfl) h1
          · exact go [116, 59] (by decide) (by decide +kernel) (fun k a b => by
              have b : k < 2 := b
              have e : k = 1 := by omega
              subst e; decide +kernel) (by decide) (by decide)
          · exact go [59] (by decide) (by decide +kernel) (fun k a b => absurd b (by simp; omega)) (by decide) (by decide)
        · have lt : n < 4 := lt
          have e : n = 1 ∨ n = 2 ∨ n = 3 := by omega
          rcases e with rfl | rfl | rfl
          · exact absurd (.inl rfl) h1
          · exact go [116, 59] (by decide) (by decide +kernel) (fun k a b => by
              have b : k < 2 := b
              have e : k = 1 := by omega
              subst e; decide +kernel) (by decide) (by decide)
          · exact go [59] (by decide) (by decide +kernel) (fun k a b => absurd b (by simp; omega)) (by decide) (by decide)
        · have lt : n < 5 := lt
          have e : n = 1 ∨ n = 2 ∨ n = 3 ∨ n = 4 := by omega
          rcases e with rfl | rfl | rfl | rfl
          · exact absurd (.inl rfl) h1
          · exact go [109, 112, 59] (by decide) (by decide +kernel) (fun k a b => by
              have b : k < 3 := b
              have e : k = 1 ∨ k = 2 := by omega
              rcases e with rfl | rfl <;> decide +kernel) (by decide) (by decide)
          · exact go [112, 59] (by decide) (by decide +kernel) (fun k a b => by
              have b : k < 2 := b
              have e : k = 1 := by omega
              subst e; decide +kernel) (by decide) (by decide)
          · exact go [59] (by decide) (by decide +kernel) (fun k a b => absurd b (by simp; omega)) (by decide) (by decide)
/-! ### reading a completion -/
theorem ref_step {s : Sta} {c : Nat} (hp : s.p = .text ∨ s.p = .bare ∨ s.p = .double ∨ s.p = .single) (h : s.pd.take 1 = [38]) : stp1 s c = stRef s c := by
  have hne : s.pd ≠ [] := fun z => by rw [z] at h; cases h
  unfold stp1
  rcases hp with hp | hp | hp | hp
  · rw [hp]; show stText s c = _; unfold stText; rw [if_pos h]
  · rw [hp]; show stVal s c = _; unfold stVal; rw [if_pos hne]
  · rw [hp]; show stVal s c = _; unfold stVal; rw [if_pos hne]
  · rw [hp]; show stVal s c = _; unfold stVal; rw [if_pos hne]
theorem take1_app {a b : Tx} (h : a.take 1 = [38]) : (a ++ b).take 1 = [38] := by
  cases a with
  | nil => cases h
  | cons x a => exact h
theorem run_rows {s : Sta} (hp : s.p = .text ∨ s.p = .bare ∨ s.p = .double ∨ s.p = .single) (h : s.pd.take 1 = [38]) : ∀ (n : Nat) (r : Tx), r ∈ rowsAt s.pd n → (∀ i, i < n → (lgOf (rowsAt s.pd i)).find? (isRef s.pd) = none) →
    runR s (itms r) = (⟨s.p, s.el, s.pd ++ r⟩, [])
  | 0, r, hr, _ => by
    simp [rowsAt] at hr
    subst hr
    show (s, []) = _
    rw [List.append_nil]
  | n + 1, r, hr, hb => by
    obtain ⟨h1, h2⟩ := List.mem_filter.mp hr
    have hn := List.find?_eq_none.mp (hb n (by omega)) r h1
    obtain ⟨r', hr', h3⟩ := List.mem_flatMap.mp h1
    obtain ⟨c, hc, rfl⟩ := List.mem_map.mp h3
    have ih := run_rows hp h n r' hr' fun i hi => hb i (by omega)
    have e : itms (r' ++ [c]) = itms r' ++ [.ch c] := by unfold itms; rw [List.map_append]; rfl
    rw [e, runR_snoc, ih]
    have st : stp1 ⟨s.p, s.el, s.pd ++ r'⟩ c = stRef ⟨s.p, s.el, s.pd ++ r'⟩ c := ref_step hp (take1_app h)
    have hr0 : refT (s.pd ++ r' ++ [c]) = none := by
      rw [List.append_assoc]
      unfold isRef at hn
      cases q : refT (s.pd ++ (r' ++ [c])) with
      | none => rfl
      | some v => rw [q] at hn; exact absurd rfl hn
    have hb1 : isBeg (s.pd ++ r' ++ [c]) = true := by rw [List.append_assoc]; exact h2
    have e2 : stRef ⟨s.p, s.el, s.pd ++ r'⟩ c = .go (⟨s.p, s.el, s.pd ++ r' ++ [c]⟩, []) := by
      unfold stRef
      simp only
      rw [hr0]
      simp only
      rw [if_pos hb1]
    have e3 : itStp ⟨s.p, s.el, s.pd ++ r'⟩ (.ch c) = (⟨s.p, s.el, s.pd ++ r' ++ [c]⟩, []) := by
      show stp _ c = _
      unfold stp
      rw [st, e2]
    rw [e3, List.append_assoc]
    rfl
/-- a completed reference: one sign at the most, the pending text is gone -/
theorem run_compl {s : Sta} (hp : s.p = .text ∨ s.p = .bare ∨ s.p = .double ∨ s.p = .single) (h : isBeg s.pd = true) : compl s.pd ≠ [] ∧ (∀ c ∈ compl s.pd, c ∈ SIGN) ∧ ∃ v : Tx, v.length ≤ 1 ∧ runR s (itms (compl s.pd)) = (settl s, evs s.p.kd! v) := by
  obtain ⟨X, hX⟩ := compl_beg h
  have eX : compl s.pd = X := by unfold compl; rw [hX]; rfl
  rw [eX]
  have h38 := (isBeg_len h).2.2
  obtain ⟨n, _, hn, hb, hat⟩ := compl_at s.pd X 4 0 hX
  have hm := List.mem_of_find?_eq_some hat
  have hr := List.find?_some hat
  obtain ⟨r, hr', h3⟩ := List.mem_flatMap.mp hm
  obtain ⟨c, hc, rfl⟩ := List.mem_map.mp h3
  have sgn : ∀ n r, r ∈ rowsAt s.pd n → ∀ c ∈ r, c ∈ SIGN := fun n => by
    induction n with
    | zero => intro r hr c hc; simp [rowsAt] at hr; subst hr; cases hc
    | succ n ih =>
      intro r hr c hc
      obtain ⟨a, ha, hb⟩ := List.mem_flatMap.mp (List.mem_filter.mp hr).1
      obtain ⟨d, hd, rfl⟩ := List.mem_map.mp hb
      rcases List.mem_append.mp hc with z | z
      · exact ih a ha c z
      · rw [List.mem_singleton.mp z]; exact hd
  refine ⟨by simp, fun d hd => ?_, ?_⟩
  · rcases List.mem_append.mp hd with z | z
    · exact sgn n r hr' d z
    · rw [List.mem_singleton.mp z]; exact hc
  · have run := run_rows hp h38 n r hr' fun i hi => hb i (Nat.zero_le _) hi
    have e : itms (r ++ [c]) = itms r ++ [.ch c] := by unfold itms; rw [List.map_append]; rfl
    rw [e, runR_snoc, run]
    have st : stp1 ⟨s.p, s.el, s.pd ++ r⟩ c = stRef ⟨s.p, s.el, s.pd ++ r⟩ c := ref_step hp (take1_app h38)
    unfold isRef at hr
    cases q : refT (s.pd ++ (r ++ [c])) with
    | none => rw [q] at hr; cases hr
    | some v =>
      refine ⟨v, ?_, ?_⟩
      · exact refT_len q
      · have e2 : stRef ⟨s.p, s.el, s.pd ++ r⟩ c = .go (settl s, evs s.p.kd! v) := by
          unfold stRef
          simp only
          rw [List.append_assoc, q]
          rfl
        have e3 : itStp ⟨s.p, s.el, s.pd ++ r⟩ (.ch c) = (settl s, evs s.p.kd! v) := by
          show stp _ c = _
          unfold stp
          rw [st, e2]
        rw [e3]
        rfl
end K49

set_option Elab.async false
set_option linter.all false
set_option maxRecDepth 100000
/-! K49Pl: plain: whole and lacking codings read apart. -/
namespace K49
open PySem
def bs (p : Pl) : Pl := if p = .equals then .bare else p
def stB (s : Sta) : Sta := ⟨bs s.p, s.el, []⟩
def preE (s : Sta) : List Evt := if s.p = .equals then [(.value, .tx [])] else pendE s
def Op4 (p : Pl) : Prop := p = .text ∨ p = .bare ∨ p = .double ∨ p = .single
theorem itms_app (a b : Tx) : itms (a ++ b) = itms a ++ itms b := by unfold itms; rw [List.map_append]
theorem evR_cons (s : Sta) (i : Itm) (r : List Itm) : evR s (i :: r) = (itStp s i).2 ++ evR (itStp s i).1 r := by
  unfold evR
  show ((itStp s i).2 ++ (runR (itStp s i).1 r).2) ++ finE (runR (itStp s i).1 r).1 = _
  rw [List.append_assoc]
theorem evR_app (s : Sta) (a b : List Itm) : evR s (a ++ b) = (runR s a).2 ++ evR (runR s a).1 b := by
  unfold evR
  rw [runR_app]
  simp only
  rw [List.append_assoc]
/-- from the place gap on the next event is an attribute's or a close -/
theorem gap_head : ∀ (t : Tx) (s : Sta), s.p = .gap → ∃ e es, evR s (itms t) = e :: es ∧ (e.1 = .attr ∨ e.1 = .close)
  | [], s, hp => by
    refine ⟨(.close, .tx []), [], ?_, .inr rfl⟩
    show [] ++ finE s = _
    unfold finE
    rw [hp]
    rfl
  | c :: t, s, hp => by
    have e0 : itms (c :: t) = .ch c :: itms t := rfl
    rw [e0, evR_cons]
    have e1 : itStp s (.ch c) = stGap s c := by
      show stp s c = _
      unfold stp stp1
      rw [hp]
    rw [e1]
    unfold stGap
    by_cases h1 : c ∈ BLNK ∨ c = 47
    · rw [if_pos h1]; exact gap_head t s hp
    · rw [if_neg h1]
      by_cases h2 : c ≠ 62
      · rw [if_pos h2]; exact ⟨_, _, rfl, .inl rfl⟩
      · rw [if_neg h2]
        by_cases h3 : s.el = [45]
        · rw [if_pos h3]; exact ⟨_, _, rfl, .inr rfl⟩
        · rw [if_neg h3]; exact ⟨_, _, rfl, .inr rfl⟩
/-! ### the sign & behind pending text -/
theorem beg_tail {u : Tx} (h : isBeg u = true) : 38 ∉ u.drop 1 := by
  unfold isBeg at h
  by_cases h1 : u = [38] ∨ u = [38, 35]
  · rcases h1 with rfl | rfl <;> decide
  · rw [if_neg h1] at h
    by_cases h2 : u.take 2 = [38, 35]
    · rw [if_pos h2] at h
      have eu : u = [38, 35] ++ u.drop 2 := by rw [← h2, List.take_append_drop]
      generalize u.drop 2 = t at h eu
      subst eu
      intro z
      have z : 38 ∈ 35 :: t := z
      rcases List.mem_cons.mp z with y | y
      · cases y
      · unfold leads leadsF at h
        by_cases hn : isNum t = true
        · unfold isNum at hn
          split at hn
          · cases hn
          · have w := List.all_eq_true.mp hn 38 y
            exact absurd w (by decide)
        · rw [if_neg hn] at h; cases h
    · rw [if_neg h2] at h
      by_cases h3 : u = []
      · rw [if_pos h3] at h; cases h
      · rw [if_neg h3] at h
        obtain ⟨a, ha, hb⟩ := List.any_eq_true.mp h
        simp only [Bool.and_eq_true, decide_eq_true_eq] at hb
        intro z
        rw [← hb.2] at z
        have w : 38 ∈ a.1.drop 1 := by
          have e : (a.1.take u.length).drop 1 = (a.1.drop 1).take (u.length - 1) := by rw [List.drop_take]
          rw [e] at z
          exact List.mem_of_mem_take z
        simp only [NAMD, List.mem_cons, List.not_mem_nil, or_false] at ha
        rcases ha with rfl | rfl | rfl | rfl <;> exact absurd w (by decide)
theorem beg_amp {t : Tx} (h : t ≠ []) : isBeg (t ++ [38]) = false := by
  apply Bool.eq_false_iff.mpr
  intro z
  apply beg_tail z
  cases t with
  | nil => exact absurd rfl h
  | cons a t => exact List.mem_append_right t (List.mem_singleton.mpr rfl)
theorem ref_amp (t : Tx) : refT (t ++ [38]) = none := by
  unfold refT
  have ne : ∀ u : Tx, t ++ [38] ≠ u ++ [59] := fun u z => by
    have y := (List.append_inj' z rfl).2
    exact absurd y (by decide)
  have n0 : NAMD.lookup (t ++ [38]) = none := by
    have e1 : ((t ++ [38] : Tx) == [38, 59]) = false := beq_eq_false_iff_ne.mpr (ne [38])
    have e2 : ((t ++ [38] : Tx) == [38, 108, 116, 59]) = false := beq_eq_false_iff_ne.mpr (ne [38, 108, 116])
    have e3 : ((t ++ [38] : Tx) == [38, 103, 116, 59]) = false := beq_eq_false_iff_ne.mpr (ne [38, 103, 116])
    have e4 : ((t ++ [38] : Tx) == [38, 97, 109, 112, 59]) = false := beq_eq_false_iff_ne.mpr (ne [38, 97, 109, 112])
    simp only [NAMD, List.lookup, e1, e2, e3, e4]
  rw [n0]
  simp only
  rw [if_neg]
  rintro ⟨_, z, _⟩
  have l : (t ++ [38] : Tx).length - 1 = t.length := by simp
  rw [l, List.drop_left] at z
  exact absurd z (by decide)
theorem amp_beg {s : Sta} (hp : Op4 s.p) (h : isBeg s.pd = true) : stp s 38 = (⟨s.p, if s.p = .text then [] else s.el, [38]⟩, pendE s) := by
  have h38 := (isBeg_len h).2.2
  have hne := (isBeg_len h).2.1
  have e1 : stp1 s 38 = settA s := by
    rw [ref_step hp h38]
    unfold stRef
    rw [ref_amp]
    simp only
    rw [beg_amp hne]
    rfl
  unfold stp
  rw [e1]
  show ((stpG (settl s) 38).1, pendE s ++ (stpG (settl s) 38).2) = _
  obtain ⟨p, el, pd⟩ := s
  rcases hp with hp | hp | hp | hp <;> (have hp : p = _ := hp; subst hp)
  · show (_, pendE _ ++ []) = _
    rw [List.append_nil]; rfl
  · show (_, pendE _ ++ []) = _
    rw [List.append_nil]; rfl
  · show (_, pendE _ ++ []) = _
    rw [List.append_nil]; rfl
  · show (_, pendE _ ++ []) = _
    rw [List.append_nil]; rfl
theorem op4_of {s : Sta} (h : isOpen s = true) (he : s.p ≠ .equals) : Op4 s.p := by
  have h := of_decide_eq_true h
  rcases h with z | z | z | z | z
  · exact .inl z
  · exact .inr (.inl z)
  · exact .inr (.inr (.inl z))
  · exact .inr (.inr (.inr z))
  · exact absurd z he
theorem good_pd {s : Sta} (g : Good s) (h : isOpen s = true) (hp : s.pd ≠ []) : isBeg s.pd = true ∨ (s.p = .text ∧ (s.pd = [60] ∨ s.pd = [60, 47] ∨ s.pd = [60, 33] ∨ s.pd = [60, 33, 45])) := by
  obtain ⟨p, el, pd⟩ := s
  have hp : pd ≠ [] := hp
  cases p with
  | text =>
    rcases g.2 with z | z | z | z | z | z
    · exact absurd z hp
    · exact .inr ⟨rfl, .inl z⟩
    · exact .inr ⟨rfl, .inr (.inl z)⟩
    · exact .inr ⟨rfl, .inr (.inr (.inl z))⟩
    · exact .inr ⟨rfl, .inr (.inr (.inr z))⟩
    · exact .inl z
  | bare => exact .inl (g.2.resolve_left hp)
  | double => exact .inl (g.2.resolve_left hp)
  | single => exact .inl (g.2.resolve_left hp)
  | equals => exact absurd g.2 hp
  | tag => exact absurd (of_decide_eq_true h) (by simp)
  | gap => exact absurd (of_decide_eq_true h) (by simp)
  | name => exact absurd (of_decide_eq_true h) (by simp)
  | comment => exact absurd (of_decide_eq_true h) (by simp)
  | raw => exact absurd (of_decide_eq_true h) (by simp)
theorem good_el {s : Sta} (g : Good s) (h : s.p = .text) : s.el = [] := by
  obtain ⟨p, el, pd⟩ := s
  have h : p = .text := h
  subst h
  exact g.1
/-- the front text &; behind what is pending -/
theorem pre_run {s : Sta} (g : Good s) (h : isOpen s = true) (hc : s.p = .equals ∨ s.pd ≠ []) : runR s (itms [38, 59]) = (stB s, preE s) := by
  by_cases he : s.p = .equals
  · obtain ⟨p, el, pd⟩ := s
    have he : p = .equals := he
    subst he
    have hpd : pd = [] := g.2
    subst hpd
    rfl
  · have hpd : s.pd ≠ [] := hc.resolve_left he
    have hp := op4_of h he
    rcases good_pd g h hpd with hb | ⟨ht, hb⟩
    · have e1 := amp_beg hp hb
      have e2 : runR s (itms [38, 59]) = ((stp (stp s 38).1 59).1, (stp s 38).2 ++ ((stp (stp s 38).1 59).2 ++ [])) := rfl
      rw [e2, e1]
      have hel := good_el g
      have ep : preE s = pendE s := if_neg he
      rw [ep]
      generalize pendE s = E
      obtain ⟨p, el, pd⟩ := s
      rcases hp with hp | hp | hp | hp <;> (have hp : p = _ := hp; subst hp)
      · have hel : el = [] := hel rfl
        subst hel
        show (_, E ++ []) = _
        rw [List.append_nil]; rfl
      · show (_, E ++ []) = _
        rw [List.append_nil]; rfl
      · show (_, E ++ []) = _
        rw [List.append_nil]; rfl
      · show (_, E ++ []) = _
        rw [List.append_nil]; rfl
    · have hel := good_el g ht
      obtain ⟨p, el, pd⟩ := s
      have ht : p = .text := ht
      have hel : el = [] := hel
      subst ht hel
      have hb : pd = [60] ∨ pd = [60, 47] ∨ pd = [60, 33] ∨ pd = [60, 33, 45] := hb
      rcases hb with rfl | rfl | rfl | rfl <;> rfl
/-! ### coded signs -/
theorem img_map (g : Nat → Tx) (c : Nat) : ∀ l : List Nat, imgOf (l.map fun c => (c, g c)) c = if c ∈ l then g c else [c]
  | [] => rfl
  | a :: l => by
    have ih := img_map g c l
    unfold imgOf at ih ⊢
    rw [List.map_cons, List.lookup_cons]
    by_cases h : c = a
    · subst h; simp
    · rw [beq_eq_false_iff_ne.mpr h]
      simp only
      rw [ih]
      simp [h]
theorem code_in {p : Pl} {el : Tx} {c : Nat} (hp : Op4 p) (hel : p = .text → el = []) (hc : c ∈ images p) : runR ⟨p, el, []⟩ (itms (leastR c)) = (⟨p, el, []⟩, [(p.kd!, .tx [c])]) := by
  have n38 : leastR 38 = [38, 35, 51, 56, 59] := by decide +kernel
  have n60 : leastR 60 = [38, 108, 116, 59] := by decide +kernel
  have n34 : leastR 34 = [38, 35, 51, 52, 59] := by decide +kernel
  have n39 : leastR 39 = [38, 35, 51, 57, 59] := by decide +kernel
  have n10 : leastR 10 = [38, 35, 49, 48, 59] := by decide +kernel
  have n32 : leastR 32 = [38, 35, 51, 50, 59] := by decide +kernel
  have n62 : leastR 62 = [38, 103, 116, 59] := by decide +kernel
  rcases hp with rfl | rfl | rfl | rfl
  · have hel := hel rfl
    subst hel
    simp only [images, List.mem_cons, List.not_mem_nil, or_false] at hc
    rcases hc with rfl | rfl
    · rw [n38]; kernel_rfl
    · rw [n60]; kernel_rfl
  · simp only [images, List.mem_cons, List.not_mem_nil, or_false] at hc
    rcases hc with rfl | rfl | rfl | rfl
    · rw [n10]; kernel_rfl
    · rw [n32]; kernel_rfl
    · rw [n38]; kernel_rfl
    · rw [n62]; kernel_rfl
  · simp only [images, List.mem_cons, List.not_mem_nil, or_false] at hc
    rcases hc with rfl | rfl
    · rw [n34]; kernel_rfl
    · rw [n38]; kernel_rfl
  · simp only [images, List.mem_cons, List.not_mem_nil, or_false] at hc
    rcases hc with rfl | rfl
    · rw [n38]; kernel_rfl
    · rw [n39]; kernel_rfl
theorem code_out {p : Pl} {el : Tx} {c : Nat} (hp : Op4 p) (hel : p = .text → el = []) (hc : c ∉ images p) : runR ⟨p, el, []⟩ (itms [c]) = (⟨p, el, []⟩, [(p.kd!, .tx [c])]) := by
  have one : ∀ r : Res, stp1 ⟨p, el, []⟩ c = .go r → runR ⟨p, el, []⟩ (itms [c]) = (r.1, r.2) := fun r hr => by
    show ((stp ⟨p, el, []⟩ c).1, (stp ⟨p, el, []⟩ c).2 ++ []) = _
    unfold stp
    rw [hr, List.append_nil]
  rcases hp with rfl | rfl | rfl | rfl
  · have hel := hel rfl
    subst hel
    simp only [images, List.mem_cons, List.not_mem_nil, or_false, not_or] at hc
    refine one (⟨.text, [], []⟩, [(.text, .tx [c])]) ?_
    show stText ⟨.text, [], []⟩ c = .go (⟨.text, [], []⟩, [(.text, .tx [c])])
    unfold stText
    simp [hc.1, hc.2]
  · simp only [images, List.mem_cons, List.not_mem_nil, or_false, not_or] at hc
    refine one (⟨.bare, el, []⟩, [(.value, .tx [c])]) ?_
    show stVal ⟨.bare, el, []⟩ c = .go (⟨.bare, el, []⟩, [(.value, .tx [c])])
    unfold stVal
    simp [hc.1, hc.2.1, hc.2.2.1, hc.2.2.2, BLNK]
  · simp only [images, List.mem_cons, List.not_mem_nil, or_false, not_or] at hc
    refine one (⟨.double, el, []⟩, [(.value, .tx [c])]) ?_
    show stVal ⟨.double, el, []⟩ c = .go (⟨.double, el, []⟩, [(.value, .tx [c])])
    unfold stVal
    simp [hc.1, hc.2, quote]
  · simp only [images, List.mem_cons, List.not_mem_nil, or_false, not_or] at hc
    refine one (⟨.single, el, []⟩, [(.value, .tx [c])]) ?_
    show stVal ⟨.single, el, []⟩ c = .go (⟨.single, el, []⟩, [(.value, .tx [c])])
    unfold stVal
    simp [hc.1, hc.2, quote]
theorem code_all {p : Pl} {el : Tx} (hp : Op4 p) (hel : p = .text → el = []) : ∀ t : Tx, runR ⟨p, el, []⟩ (itms (t.map (imgOf ((images p).map fun c => (c, leastR c)))).flatten) = (⟨p, el, []⟩, t.map fun c => (p.kd!, .tx [c]))
  | [] => rfl
  | c :: t => by
    have e1 : runR ⟨p, el, []⟩ (itms (imgOf ((images p).map fun c => (c, leastR c)) c)) = (⟨p, el, []⟩, [(p.kd!, .tx [c])]) := by
      rw [img_map]
      by_cases h : c ∈ images p
      · rw [if_pos h]; exact code_in hp hel h
      · rw [if_neg h]; exact code_out hp hel h
    rw [List.map_cons, List.flatten_cons, itms_app, runR_app, e1]
    simp only
    rw [code_all hp hel t]
    rfl
theorem bs_op {s : Sta} (h : isOpen s = true) : Op4 (bs s.p) := by
  unfold bs
  by_cases he : s.p = .equals
  · rw [if_pos he]; exact .inr (.inl rfl)
  · rw [if_neg he]; exact op4_of h he
theorem bs_img (s : Sta) : images (bs s.p) = images s.p := by
  unfold bs
  split
  · rename_i h; rw [h]; rfl
  · rfl
theorem bs_el {s : Sta} (g : Good s) (h : bs s.p = .text) : s.el = [] := by
  refine good_el g ?_
  unfold bs at h
  split at h
  · cases h
  · exact h
theorem stB_same {s : Sta} (h : ¬ (s.p = .equals ∨ s.pd ≠ [])) : stB s = s ∧ preE s = [] := by
  rw [not_or] at h
  obtain ⟨h1, h2⟩ := h
  have h2 : s.pd = [] := Decidable.not_not.mp h2
  obtain ⟨p, el, pd⟩ := s
  have h1 : ¬ p = .equals := h1
  have h2 : pd = [] := h2
  subst h2
  constructor
  · unfold stB bs
    simp only
    rw [if_neg h1]
  · unfold preE
    simp only
    rw [if_neg h1]
    rfl
/-- the front text of a coding, whole or lacking a sign -/
theorem front_run {s : Sta} (g : Good s) (h : isOpen s = true) : runR s (itms (codeO s).1) = (stB s, preE s) := by
  by_cases hc : s.p = .equals ∨ s.pd ≠ []
  · have e : (codeO s).1 = [38, 59] := if_pos hc
    rw [e]; exact pre_run g h hc
  · have e : (codeO s).1 = [] := if_neg hc
    rw [e, (stB_same hc).1, (stB_same hc).2]
    rfl
abbrev kb (s : Sta) : Kd := (bs s.p).kd!
theorem whole_run {s : Sta} (g : Good s) (h : isOpen s = true) (t : Tx) : runR s (itms (coded (codeO s) t)) = (stB s, preE s ++ t.map fun c => (kb s, .tx [c])) := by
  unfold coded
  rw [itms_app, runR_app, front_run g h]
  simp only
  have z := code_all (p := bs s.p) (el := s.el) (bs_op h) (bs_el g) t
  rw [bs_img] at z
  have z' : runR (stB s) (itms (t.map (imgOf (codeO s).2)).flatten) = (stB s, t.map fun c => (kb s, .tx [c])) := z
  rw [z']
theorem mark_run {s : Sta} (h : isOpen s = true) : mkStp s 0 = (stB s, preE s ++ [(kb s, .mk 0)]) := by
  obtain ⟨p, el, pd⟩ := s
  cases p <;> first | rfl | exact absurd (of_decide_eq_true h) (by simp)
/-! ### a marked row, filled, is the page of the whole coding -/
theorem xp_ch {T : Tx} : ∀ {es : List Evt}, CH es → es.flatMap (xp T) = es
  | [], _ => rfl
  | (k, i) :: es, h => by
    rw [List.flatMap_cons, xp_ch (es := es) fun e he => h e (List.mem_cons_of_mem _ he)]
    cases i with
    | tx t => rfl
    | mk n => exact absurd rfl (h (k, .mk n) List.mem_cons_self n)
theorem ch_preE (s : Sta) : CH (preE s) := by
  unfold preE
  split
  · exact ch_cons ch_nil
  · exact ch_evs _ _
theorem kb_tv {s : Sta} (h : isOpen s = true) : kb s = .text ∨ kb s = .value := by
  have z := bs_op h
  unfold kb
  rcases z with z | z | z | z <;> rw [z]
  · exact .inl rfl
  · exact .inr rfl
  · exact .inr rfl
  · exact .inr rfl
theorem row_ev {s : Sta} {F B : Tx} (hs : (runR start (itms F)).1 = s) (h : isOpen s = true) :
    evR start (itms F ++ [.mk 0] ++ itms B) = (runR start (itms F)).2 ++ (preE s ++ [(kb s, .mk 0)] ++ evR (stB s) (itms B)) := by
  rw [List.append_assoc, evR_app, hs]
  show _ ++ evR s (.mk 0 :: itms B) = _
  rw [evR_cons, show itStp s (.mk 0) = mkStp s 0 from rfl, mark_run h]
theorem page_ev {s : Sta} {F B : Tx} (hs : (runR start (itms F)).1 = s) (c : Tx) : evR start (itms (F ++ c ++ B)) = (runR start (itms F)).2 ++ evR s (itms c ++ itms B) := by
  rw [itms_app, itms_app, List.append_assoc, evR_app, hs]
theorem whole_ev {s : Sta} {F B : Tx} (hs : (runR start (itms F)).1 = s) (g : Good s) (h : isOpen s = true) (t : Tx) :
    evR start (itms (F ++ coded (codeO s) t ++ B)) = (runR start (itms F)).2 ++ (preE s ++ (t.map fun c => (kb s, .tx [c])) ++ evR (stB s) (itms B)) := by
  rw [page_ev hs, evR_app, whole_run g h]
theorem due_whole {s : Sta} {F B T : Tx} (hs : (runR start (itms F)).1 = s) (g : Good s) (h : isOpen s = true) (hT : T ≠ []) :
    fills [T] (mkToks (evR start (itms F ++ [.mk 0] ++ itms B))) = readP (F ++ coded (codeO s) T ++ B) := by
  have e1 := row_ev (B := B) hs h
  have hm : MV (evR start (itms F ++ [.mk 0] ++ itms B)) := by
    rw [e1]
    intro e he n hn
    rcases List.mem_append.mp he with z | z
    · exact absurd hn (ch_run F start e z n)
    · rcases List.mem_append.mp z with z | z
      · rcases List.mem_append.mp z with z | z
        · exact absurd hn (ch_preE s e z n)
        · rw [List.mem_singleton.mp z] at hn ⊢
          injection hn with hn
          exact ⟨hn.symm, kb_tv h⟩
      · exact absurd hn (ch_evR B (stB s) e z n)
  rw [fills_xp hT hm]
  unfold readP
  rw [whole_ev hs g h, e1]
  rw [List.flatMap_append, List.flatMap_append, List.flatMap_append, xp_ch (ch_run F start), xp_ch (ch_preE s), xp_ch (ch_evR B (stB s))]
  simp [xp]
/-- pages tell their events -/
theorem read_ne {a b : Tx} (h : evR start (itms a) ≠ evR start (itms b)) : readP a ≠ readP b := fun z =>
  h (fills_inj (md_all _) (ch_evR a start) (md_all _) (ch_evR b start) z)
end K49

set_option Elab.async false
set_option linter.all false
set_option maxRecDepth 100000
/-! K49Pk: plain: a lacking coding reads otherwise; what is smaller. -/
namespace K49
open PySem
theorem step_dbl {el : Tx} {c : Nat} (h1 : c ≠ 38) (h2 : c ≠ 34) : stp ⟨.double, el, []⟩ c = (⟨.double, el, []⟩, [(.value, .tx [c])]) := by
  have e : stp1 ⟨.double, el, []⟩ c = .go (⟨.double, el, []⟩, [(.value, .tx [c])]) := by
    show stVal ⟨.double, el, []⟩ c = _
    unfold stVal
    simp [h1, h2, quote]
  unfold stp
  rw [e]
theorem shift (el : Tx) : ∀ (t pd : Tx), (pd = [] ∨ isBeg pd = true) → evR ⟨.double, el, pd⟩ (itms t) ≠ (.value, .tx [34]) :: evR ⟨.bare, el, pd⟩ (itms t)
  | [], pd, _ => fun z => by
    have e1 : evR ⟨.double, el, pd⟩ (itms []) = evs .value pd ++ [(.close, .tx [])] := rfl
    have e2 : evR ⟨.bare, el, pd⟩ (itms []) = evs .value pd ++ [(.close, .tx [])] := rfl
    rw [e1, e2] at z
    have y := congrArg List.length z
    simp only [List.length_append, List.length_cons, List.length_nil] at y
    omega
  | c :: t, pd, hpd => fun z => by
    have e0 : itms (c :: t) = .ch c :: itms t := rfl
    rw [e0, evR_cons, evR_cons] at z
    have z : (stp ⟨.double, el, pd⟩ c).2 ++ evR (stp ⟨.double, el, pd⟩ c).1 (itms t) = (.value, .tx [34]) :: ((stp ⟨.bare, el, pd⟩ c).2 ++ evR (stp ⟨.bare, el, pd⟩ c).1 (itms t)) := z
    rcases hpd with rfl | hb
    · by_cases h38 : c = 38
      · subst h38
        exact shift el t [38] (.inr rfl) z
      · by_cases h34 : c = 34
        · subst h34
          obtain ⟨e, es, he, hk⟩ := gap_head t ⟨.gap, el, []⟩ rfl
          have z : evR ⟨.gap, el, []⟩ (itms t) = _ := z
          rw [he] at z
          injection z with z _
          rw [z] at hk
          rcases hk with y | y <;> cases y
        · rw [step_dbl h38 h34] at z
          injection z with z _
          injection z with _ z
          injection z with z
          injection z with z
          exact h34 z
    · have h38 := (isBeg_len hb).2.2
      have d1 : stp1 ⟨.double, el, pd⟩ c = stRef ⟨.double, el, pd⟩ c := ref_step (.inr (.inr (.inl rfl))) h38
      have b1 : stp1 ⟨.bare, el, pd⟩ c = stRef ⟨.bare, el, pd⟩ c := ref_step (.inr (.inl rfl)) h38
      cases hr : refT (pd ++ [c]) with
      | some v =>
        have d2 : stp ⟨.double, el, pd⟩ c = (⟨.double, el, []⟩, evs .value v) := by
          unfold stp; rw [d1]; unfold stRef; simp only; rw [hr]; rfl
        have b2 : stp ⟨.bare, el, pd⟩ c = (⟨.bare, el, []⟩, evs .value v) := by
          unfold stp; rw [b1]; unfold stRef; simp only; rw [hr]; rfl
        rw [d2, b2] at z
        have hv := refT_len hr
        match v, hv with
        | [], _ => exact shift el t [] (.inl rfl) z
        | [x], _ =>
          have z : (Kd.value, Item.tx [x]) :: evR ⟨.double, el, []⟩ (itms t) = (.value, .tx [34]) :: ((Kd.value, Item.tx [x]) :: evR ⟨.bare, el, []⟩ (itms t)) := z
          injection z with z1 z2
          rw [z1] at z2
          exact shift el t [] (.inl rfl) z2
      | none =>
        by_cases hb2 : isBeg (pd ++ [c]) = true
        · have d2 : stp ⟨.double, el, pd⟩ c = (⟨.double, el, pd ++ [c]⟩, []) := by
            unfold stp; rw [d1]; unfold stRef; simp only; rw [hr]; simp only; rw [if_pos hb2]
          have b2 : stp ⟨.bare, el, pd⟩ c = (⟨.bare, el, pd ++ [c]⟩, []) := by
            unfold stp; rw [b1]; unfold stRef; simp only; rw [hr]; simp only; rw [if_pos hb2]
          rw [d2, b2] at z
          exact shift el t (pd ++ [c]) (.inr hb2) z
        · have d2 : stp ⟨.double, el, pd⟩ c = ((stpG ⟨.double, el, []⟩ c).1, evs .value pd ++ (stpG ⟨.double, el, []⟩ c).2) := by
            unfold stp; rw [d1]; unfold stRef; simp only; rw [hr]; simp only; rw [if_neg hb2]; rfl
          rw [d2] at z
          cases pd with
          | nil => cases h38
          | cons x pd =>
            have hx : x = 38 := by injection h38
            have z : (Kd.value, Item.tx [x]) :: _ = (Kd.value, Item.tx [34]) :: _ := z
            injection z with z _
            injection z with _ z
            injection z with z
            injection z with z
            omega
/-! ### one sign's image lacks -/
def trC (c : Nat) : Tx := if c = 60 then [60, 98] else if c = 38 then [38, 108, 116, 59] else [c]
theorem lack_text {p : Pl} {c : Nat} (hp : Op4 p) (hc : c ∈ images p) : ((trC c).map (imgOf (((images p).map fun c => (c, leastR c)).filter fun q => decide (q.1 ≠ c)))).flatten = trC c := by
  rcases hp with rfl | rfl | rfl | rfl <;> simp only [images, List.mem_cons, List.not_mem_nil, or_false] at hc
  · rcases hc with rfl | rfl <;> decide +kernel
  · rcases hc with rfl | rfl | rfl | rfl <;> decide +kernel
  · rcases hc with rfl | rfl <;> decide +kernel
  · rcases hc with rfl | rfl <;> decide +kernel
theorem trC_ne (c : Nat) : ∃ r, trC c = c :: r := by
  unfold trC
  split
  · rename_i h; subst h; exact ⟨_, rfl⟩
  · split
    · rename_i h; subst h; exact ⟨_, rfl⟩
    · exact ⟨_, rfl⟩
theorem gap_bare {el : Tx} {c : Nat} (h : c ∈ BLNK ∨ c = 62) (h38 : c ≠ 38) (B : Tx) : evR ⟨.bare, el, []⟩ (itms ([c] ++ B)) = evR ⟨.gap, el, []⟩ (itms ([c] ++ B)) := by
  have e0 : itms ([c] ++ B) = .ch c :: itms B := rfl
  rw [e0, evR_cons, evR_cons]
  have e1 : stp ⟨.bare, el, []⟩ c = stGap ⟨.gap, el, []⟩ c := by
    have e : stp1 ⟨.bare, el, []⟩ c = .go (stGap ⟨.gap, el, []⟩ c) := by
      show stVal ⟨.bare, el, []⟩ c = _
      unfold stVal
      simp only
      rw [if_neg (by simp), if_neg h38, if_pos ⟨trivial, h⟩]
    unfold stp
    rw [e]
  have e2 : stp ⟨.gap, el, []⟩ c = stGap ⟨.gap, el, []⟩ c := rfl
  show (stp ⟨.bare, el, []⟩ c).2 ++ evR (stp ⟨.bare, el, []⟩ c).1 (itms B) = (stp ⟨.gap, el, []⟩ c).2 ++ evR (stp ⟨.gap, el, []⟩ c).1 (itms B)
  rw [e1, e2]
theorem head_app {a : List Itm} {s s' : Sta} {e : Evt} {es : List Evt} (h : runR s a = (s', e :: es)) (b : List Itm) : ∃ r, evR s (a ++ b) = e :: r := by
  rw [evR_app, h]
  exact ⟨_, rfl⟩
theorem lack_head {p : Pl} {el : Tx} {c : Nat} (hp : Op4 p) (hel : p = .text → el = []) (hc : c ∈ images p) (B : Tx) : ∃ e es, evR ⟨p, el, []⟩ (itms (trC c ++ B)) = e :: es ∧ e ≠ (p.kd!, .tx [c]) := by
  have gp : ∀ (r : Tx) (k : Kd), k = .text ∨ k = .value → ∃ e es, evR ⟨.gap, el, []⟩ (itms r) = e :: es ∧ e ≠ (k, .tx [c]) := fun r k hk => by
    obtain ⟨e, es, h1, h2⟩ := gap_head r ⟨.gap, el, []⟩ rfl
    refine ⟨e, es, h1, fun z => ?_⟩
    rw [z] at h2
    rcases hk with rfl | rfl <;> rcases h2 with y | y <;> cases y
  have amp : ∀ (k : Kd), runR ⟨p, el, []⟩ (itms [38, 108, 116, 59]) = (⟨p, el, []⟩, [(k, .tx [60])]) → c = 38 → ∃ e es, evR ⟨p, el, []⟩ (itms (trC c ++ B)) = e :: es ∧ e ≠ (p.kd!, .tx [c]) := fun k h e => by
    subst e
    have et : trC 38 = [38, 108, 116, 59] := rfl
    rw [et, itms_app]
    obtain ⟨r, hr⟩ := head_app h (itms B)
    exact ⟨_, _, hr, fun z => by injection z with _ z; injection z with z; injection z with z; omega⟩
  rcases hp with rfl | rfl | rfl | rfl
  · have hel := hel rfl
    subst hel
    simp only [images, List.mem_cons, List.not_mem_nil, or_false] at hc
    rcases hc with rfl | rfl
    · exact amp .text (by kernel_rfl) rfl
    · have et : trC 60 = [60, 98] := rfl
      rw [et, itms_app]
      have hr : runR ⟨.text, [], []⟩ (itms [60, 98]) = (⟨.tag, [45], []⟩, [(.tag, .tx []), (.name, .tx [98])]) := by kernel_rfl
      obtain ⟨r, hr⟩ := head_app hr (itms B)
      exact ⟨_, _, hr, fun z => by injection z with z _; cases z⟩
  · simp only [images, List.mem_cons, List.not_mem_nil, or_false] at hc
    rcases hc with rfl | rfl | rfl | rfl
    · have et : trC 10 = [10] := rfl
      rw [et, gap_bare (.inl (by decide)) (by decide)]
      exact gp _ _ (.inr rfl)
    · have et : trC 32 = [32] := rfl
      rw [et, gap_bare (.inl (by decide)) (by decide)]
      exact gp _ _ (.inr rfl)
    · exact amp .value (by kernel_rfl) rfl
    · have et : trC 62 = [62] := rfl
      rw [et, gap_bare (.inr rfl) (by decide)]
      exact gp _ _ (.inr rfl)
  · simp only [images, List.mem_cons, List.not_mem_nil, or_false] at hc
    rcases hc with rfl | rfl
    · have et : trC 34 = [34] := rfl
      rw [et, itms_app, evR_app]
      have hr : runR ⟨.double, el, []⟩ (itms [34]) = (⟨.gap, el, []⟩, []) := by kernel_rfl
      rw [hr]
      exact gp B _ (.inr rfl)
    · exact amp .value (by kernel_rfl) rfl
  · simp only [images, List.mem_cons, List.not_mem_nil, or_false] at hc
    rcases hc with rfl | rfl
    · exact amp .value (by kernel_rfl) rfl
    · have et : trC 39 = [39] := rfl
      rw [et, itms_app, evR_app]
      have hr : runR ⟨.single, el, []⟩ (itms [39]) = (⟨.gap, el, []⟩, []) := by kernel_rfl
      rw [hr]
      exact gp B _ (.inr rfl)
/-! ### the front text lacks -/
theorem sign_img {p : Pl} (hp : Op4 p) : ∀ c ∈ SIGN, c ∉ images p := by
  rcases hp with rfl | rfl | rfl | rfl <;> decide
theorem coded_out {p : Pl} {t : Tx} (h : ∀ c ∈ t, c ∉ images p) : (t.map (imgOf ((images p).map fun c => (c, leastR c)))).flatten = t := by
  induction t with
  | nil => rfl
  | cons c t ih =>
    rw [List.map_cons, List.flatten_cons, ih fun d hd => h d (List.mem_cons_of_mem _ hd), img_map, if_neg (h c List.mem_cons_self)]
    rfl
theorem trial_some {s : Sta} {c : Nat} : trialT s (some c) = trC c := rfl
theorem need_some {s : Sta} {c : Nat} (h : some c ∈ needL s) : isOpen s = true ∧ c ∈ images s.p := by
  unfold needL at h
  by_cases ho : isOpen s = true
  · rw [if_pos ho] at h
    refine ⟨ho, ?_⟩
    rcases List.mem_append.mp h with z | z
    · split at z
      · have := List.mem_singleton.mp z; cases this
      · cases z
    · obtain ⟨d, hd, e⟩ := List.mem_map.mp z
      injection e with e
      subst e
      exact hd
  · rw [if_neg ho] at h; cases h
theorem need_none {s : Sta} (h : none ∈ needL s) : isOpen s = true ∧ (s.p = .equals ∨ s.pd ≠ []) := by
  unfold needL at h
  by_cases ho : isOpen s = true
  · rw [if_pos ho] at h
    refine ⟨ho, ?_⟩
    rcases List.mem_append.mp h with z | z
    · split at z
      · rename_i e
        by_cases q : s.p = .equals ∨ s.pd ≠ []
        · exact q
        · have e' : (codeO s).1 = [] := if_neg q
          rw [e'] at e; cases e
      · cases z
    · obtain ⟨d, _, e⟩ := List.mem_map.mp z
      cases e
  · rw [if_neg ho] at h; cases h
theorem trial_ref {s : Sta} (h : isBeg s.pd = true) (he : s.p ≠ .equals) : trialT s none = compl s.pd := by
  have h38 := (isBeg_len h).2.2
  have ne : ∀ u : Tx, s.pd = 60 :: u → False := fun u z => by rw [z] at h38; injection h38 with y; cases y
  unfold trialT
  simp only
  rw [if_neg he, if_neg (fun z => by rcases z with z | z <;> exact ne _ z), if_neg (fun z => ne _ z), if_neg (fun z => ne _ z)]
theorem trial_ne {s : Sta} {n : Option Nat} (g : Good s) (hn : n ∈ needL s) : trialT s n ≠ [] ∧ (trialT s n).length ≤ 4 := by
  cases n with
  | some c =>
    rw [trial_some]
    unfold trC
    split
    · exact ⟨by simp, by simp⟩
    · split
      · exact ⟨by simp, by simp⟩
      · exact ⟨by simp, by simp⟩
  | none =>
    obtain ⟨ho, hc⟩ := need_none hn
    by_cases he : s.p = .equals
    · have e : trialT s none = [34] := if_pos he
      rw [e]; exact ⟨by simp, by simp⟩
    · have hp := op4_of ho he
      rcases good_pd g ho (hc.resolve_left he) with hb | ⟨_, hb⟩
      · rw [trial_ref hb he]
        refine ⟨(run_compl hp hb).1, ?_⟩
        obtain ⟨X, hX⟩ := compl_beg hb
        have eX : compl s.pd = X := by unfold compl; rw [hX]; rfl
        obtain ⟨n, _, hn, _, hat⟩ := compl_at s.pd X 4 0 hX
        rw [eX]
        have hm := lgOf_mem (rowsAt_len s.pd n).2 X (List.mem_of_find?_eq_some hat)
        omega
      · unfold trialT
        simp only
        rw [if_neg he]
        rcases hb with e | e | e | e <;> rw [e]
        · exact ⟨by decide, by decide⟩
        · exact ⟨by decide, by decide⟩
        · exact ⟨by decide, by decide⟩
        · exact ⟨by decide, by decide⟩
/-- THE PLAIN LAW: what lacks reads otherwise -/
theorem lack_ne {s : Sta} {F B : Tx} {n : Option Nat} (hs : (runR start (itms F)).1 = s) (g : Good s) (hn : n ∈ needL s) :
    readP (F ++ coded (lackOf s n) (trialT s n) ++ B) ≠ readP (F ++ coded (codeO s) (trialT s n) ++ B) := by
  have ho : isOpen s = true := by
    cases n with
    | none => exact (need_none hn).1
    | some c => exact (need_some hn).1
  refine read_ne fun z => ?_
  rw [page_ev hs, whole_ev hs g ho] at z
  have z := List.append_cancel_left z
  cases n with
  | some c =>
    have hc := (need_some hn).2
    rw [trial_some] at z
    have hc' : c ∈ images (bs s.p) := by rw [bs_img]; exact hc
    have e1 : coded (lackOf s (some c)) (trC c) = (codeO s).1 ++ trC c := by
      have y := lack_text (bs_op ho) hc'
      rw [bs_img] at y
      show (codeO s).1 ++ ((trC c).map (imgOf ((codeO s).2.filter fun q => decide (q.1 ≠ c)))).flatten = _
      rw [show ((trC c).map (imgOf ((codeO s).2.filter fun q => decide (q.1 ≠ c)))).flatten = trC c from y]
    rw [e1, itms_app, List.append_assoc, evR_app, front_run g ho, List.append_assoc] at z
    have z := List.append_cancel_left z
    rw [← itms_app] at z
    obtain ⟨e, es, h1, h2⟩ := lack_head (p := bs s.p) (el := s.el) (bs_op ho) (bs_el g) hc' B
    have z : evR ⟨bs s.p, s.el, []⟩ (itms (trC c ++ B)) = _ := z
    rw [h1] at z
    obtain ⟨r, hr⟩ := trC_ne c
    rw [hr] at z
    injection z with z _
    exact h2 z
  | none =>
    have hc := (need_none hn).2
    have e0 : coded (lackOf s none) (trialT s none) = ((trialT s none).map (imgOf ((images s.p).map fun c => (c, leastR c)))).flatten := rfl
    rw [e0] at z
    by_cases he : s.p = .equals
    · have et : trialT s none = [34] := if_pos he
      obtain ⟨p, el, pd⟩ := s
      have he : p = .equals := he
      subst he
      have hpd : pd = [] := g.2
      subst hpd
      rw [et, coded_out (p := .equals) (by decide)] at z
      have z : evR ⟨.equals, el, []⟩ (itms [34] ++ itms B) = (.value, .tx []) :: ((.value, .tx [34]) :: evR ⟨.bare, el, []⟩ (itms B)) := z
      rw [evR_app] at z
      have hr : runR ⟨.equals, el, []⟩ (itms [34]) = (⟨.double, el, []⟩, [(.value, .tx [])]) := by kernel_rfl
      rw [hr] at z
      injection z with _ z
      exact shift el B [] (.inl rfl) z
    · have hp := op4_of ho he
      have hpd := hc.resolve_left he
      have ebs : bs s.p = s.p := if_neg he
      have epre : preE s = pendE s := if_neg he
      rcases good_pd g ho hpd with hb | ⟨ht, hb⟩
      · rw [trial_ref hb he] at z
        obtain ⟨h1, h2, v, hv, hr⟩ := run_compl hp hb
        rw [coded_out fun c hc => sign_img hp c (h2 c hc), evR_app, hr, epre] at z
        have est : stB s = settl s := by unfold stB settl; rw [ebs]
        rw [est] at z
        have y := congrArg List.length z
        simp only [List.length_append, List.length_map, pendE, evs_len] at y
        have l1 : 0 < (compl s.pd).length := List.length_pos_iff.mpr h1
        have l2 : 0 < s.pd.length := List.length_pos_iff.mpr hpd
        omega
      · have hel := good_el g ht
        obtain ⟨p, el, pd⟩ := s
        have ht : p = .text := ht
        have hel : el = [] := hel
        subst ht hel
        have hb : pd = [60] ∨ pd = [60, 47] ∨ pd = [60, 33] ∨ pd = [60, 33, 45] := hb
        have fin : ∀ (T : Tx) (s' : Sta) (e : Evt) (es : List Evt), trialT ⟨.text, [], pd⟩ none = T → (∀ c ∈ T, c ∉ images .text) → runR ⟨.text, [], pd⟩ (itms T) = (s', e :: es) → (∀ c, e ≠ (.text, .tx [c])) → (∃ r, pd = 60 :: r) → False := fun T s' e es h1 h2 h3 h4 h5 => by
          rw [h1, coded_out h2] at z
          obtain ⟨r, hr⟩ := head_app h3 (itms B)
          rw [hr, epre] at z
          obtain ⟨r', hr'⟩ := h5
          subst hr'
          injection z with z _
          exact h4 60 z
        rcases hb with rfl | rfl | rfl | rfl
        · exact fin [98] _ _ _ rfl (by decide) (show _ = (⟨.tag, [45], []⟩, [(.tag, .tx []), (.name, .tx [98])]) by kernel_rfl) (fun c y => by injection y with y _; cases y) ⟨_, rfl⟩
        · exact fin [98] _ _ _ rfl (by decide) (show _ = (⟨.tag, [45], []⟩, [(.fin, .tx []), (.name, .tx [98])]) by kernel_rfl) (fun c y => by injection y with y _; cases y) ⟨_, rfl⟩
        · exact fin [45, 45] _ _ _ rfl (by decide) (show _ = (⟨.comment, [], []⟩, [(.comment, .tx [])]) by kernel_rfl) (fun c y => by injection y with y _; cases y) ⟨_, rfl⟩
        · exact fin [45] _ _ _ rfl (by decide) (show _ = (⟨.comment, [], []⟩, [(.comment, .tx [])]) by kernel_rfl) (fun c y => by injection y with y _; cases y) ⟨_, rfl⟩
/-! ### what is smaller -/
theorem small_all (b : Bool) (p : Pl) : (∀ c ∈ images p, smM (if b then [38, 59] else [], ((images p).map fun c => (c, leastR c)).filter fun q => decide (q.1 ≠ c)) (if b then [38, 59] else [], (images p).map fun c => (c, leastR c)) = true ∧
      smM (if b then [38, 59] else [], (images p).map fun c => (c, leastR c)) (if b then [38, 59] else [], ((images p).map fun c => (c, leastR c)).filter fun q => decide (q.1 ≠ c)) = false) ∧
    smM ([], (images p).map fun c => (c, leastR c)) ([38, 59], (images p).map fun c => (c, leastR c)) = true ∧ smM ([38, 59], (images p).map fun c => (c, leastR c)) ([], (images p).map fun c => (c, leastR c)) = false := by
  cases b <;> cases p <;> decide +kernel
theorem small_ok {s : Sta} {n : Option Nat} (hn : n ∈ needL s) : smM (lackOf s n) (codeO s) = true ∧ smM (codeO s) (lackOf s n) = false := by
  cases n with
  | some c =>
    obtain ⟨ho, hc⟩ := need_some hn
    by_cases q : s.p = .equals ∨ s.pd ≠ []
    · have e : codeO s = ([38, 59], (images s.p).map fun c => (c, leastR c)) := by unfold codeO; rw [if_pos q]
      have el : lackOf s (some c) = ([38, 59], ((images s.p).map fun c => (c, leastR c)).filter fun q => decide (q.1 ≠ c)) := by unfold lackOf; simp only; rw [e]
      rw [e, el]
      exact (small_all true s.p).1 c hc
    · have e : codeO s = ([], (images s.p).map fun c => (c, leastR c)) := by unfold codeO; rw [if_neg q]
      have el : lackOf s (some c) = ([], ((images s.p).map fun c => (c, leastR c)).filter fun q => decide (q.1 ≠ c)) := by unfold lackOf; simp only; rw [e]
      rw [e, el]
      exact (small_all false s.p).1 c hc
  | none =>
    obtain ⟨ho, q⟩ := need_none hn
    have e : codeO s = ([38, 59], (images s.p).map fun c => (c, leastR c)) := by unfold codeO; rw [if_pos q]
    have el : lackOf s none = ([], (images s.p).map fun c => (c, leastR c)) := by unfold lackOf; simp only; rw [e]
    rw [e, el]
    exact (small_all true s.p).2
end K49

set_option Elab.async false
set_option linter.all false
set_option maxRecDepth 100000
/-! K49La: the law's own helpers. -/
namespace K49
open PySem L2
/-! ### int expressions, raw -/
def Z (te : TE) (σ : L2.St) (x : Int) : Prop := ∀ (H : Hp) (Q : VK), Q (.int x) H → te σ H Q
section
variable {K : PySem.W.Frag} {σ : L2.St} {ta tb te : TE} {x y : Int}
theorem z_var {i : Nat} (h : σ[i]? = some (some (.int x))) : Z (tVar i) σ x := fun H Q q => ⟨_, h, q⟩
theorem z_int : Z (tC (.int x)) σ x := fun H Q q => q
theorem z_op0 {g : Int → Int → Int} (ha : Z ta σ x) (hb : Z tb σ y) : Z (tOp (rI0 fun i j => .int (g i j)) ta tb) σ (g x y) := fun H Q q => ha H _ (hb H _ ⟨_, _, rfl, rfl, q⟩)
theorem z_opC {C : Int → Int → Prop} {g : Int → Int → Int} (ha : Z ta σ x) (hb : Z tb σ y) (hc : C x y) : Z (tOp (rI C fun i j => .int (g i j)) ta tb) σ (g x y) := fun H Q q => ha H _ (hb H _ ⟨_, _, rfl, rfl, hc, q⟩)
theorem z_intc (h : Z ta σ x) : Z (tCB (fun xs H Q => (∃ i, xs = [.int i] ∧ Q (.int i) H) ∨ ∃ k, xs = [.bl k] ∧ Q (.int (if k then 1 else 0)) H) (tCons ta tNil)) σ x := fun H Q q => h H _ (.inl ⟨_, rfl, q⟩)
theorem z_app {D : Ends} {H : Hp} {r : Addr} {ys : List V} (hr : σ[1]? = some (some (.ref r))) (hx : Z te σ x) (hH : H r = some (.lst ys)) (hl : ys.length ≤ 1000000) (q : D.nx σ (upd H r (.lst (ys ++ [.int x])))) : tDrop (tBM K "list" rAppend (tVar 1) (tCons te tNil)) D σ H :=
  ⟨_, hr, .inl ⟨rfl, _, .of hH⟩, hx H _ ⟨_, ys, _, rfl, rfl, hH, szl (by omega), q⟩⟩
theorem rv_modI {i j : Int} (h : 0 < j) : RV K (rI (fun _ j => 0 < j) fun i j => .int (i % j)) (.int i) (.int j) (.int (i % j)) := fun G H v w e hv hw Q q => by
  rw [hv.int_, hw.int_]
  exact ⟨_, _, rfl, rfl, h, q _ G H (.refl e) (.int _)⟩
theorem upd_upd (H : Hp) (a : Addr) (o o' : HO) : upd (upd H a o) a o' = upd H a o' := by
  funext b
  by_cases h : b = a
  · subst h; rw [upd_same, upd_same]
  · rw [upd_ne h, upd_ne h, upd_ne h]
end
theorem isl_ints {K : PySem.W.Frag} (G : Hp) : ∀ ls : List Int, IsL K G (ls.map V.int) (ls.map PyData.int)
  | [] => .nil
  | n :: ls => .cons (.int n) (isl_ints G ls)
/-- what _law_draws promises: some list of numbers from 0 -/
def spDraws (K : PySem.W.Frag) : Sp := fun vs H Q _ => ∃ (a : Addr) (ns : List Int) (G : Hp), vs = [.ref a] ∧ SqL K H a (ns.map V.int) ∧ ns.length ≤ 63 ∧ Ex G H ∧
  ∀ (ls : List Int) v G' H', (∀ n ∈ ls, 0 ≤ n) → ls.length ≤ 4000 → Grow G H G' H' → Is K G' v (.list (ls.map PyData.int)) → Q v H'
def intsD (ls : List Int) : PyData := .list (ls.map PyData.int)
def atM (ls : List Int) (k many : Int) : Int := if k < ls.length then (ls.getD k.toNat 0) % many else 0
def R__law_at : List PyData → PyData → Prop := fun l d => ∃ (ls : List Int) (k many : Int), l = [intsD ls, .int k, .int many] ∧ 0 ≤ k ∧ 0 < many ∧ d = .int (atM ls k many)
theorem atM_range {ls : List Int} {k many : Int} (h : 0 < many) : 0 ≤ atM ls k many ∧ atM ls k many < many := by
  unfold atM
  split
  · exact ⟨Int.emod_nonneg _ (by omega), Int.emod_lt_of_pos _ h⟩
  · exact ⟨Int.le_refl _, h⟩
section
variable {P : Program} {w : World} {K : PySem.W.Frag} {mg : Str → Option Value} {base : Heap}

theorem sc__law_draws : FnScope ["_law_script", "_law_draws_here", "_law_k", "_law_rest", "_law_turn", "_law_mixed"] ["_law_script"] (defScope s__law_draws) := ⟨rfl, rfl, rfl, by decide +kernel, rfl, by decide +kernel, by decide +kernel⟩
theorem cal__law_draws (T : Fx K w mg) : C8.Cal P w K mg base 1 "_law_draws" (spDraws K) [] := by
  obtain ⟨fd, F, hm⟩ := T.f__law_draws
  have ok : FnOk P w K mg base CX0 1 (He.ga K "_law_draws") fd ["_law_script"] (spDraws K) := by
    refine F.ok sc__law_draws (fun vs H Q E h => ?_) (fun cdv A outer s H vs Q E hr h => ?_)
    · obtain ⟨a, ns, G, rfl, _⟩ := h
      rfl
    · obtain ⟨a, ns, G, rfl, hS, hlen, hG, k⟩ := h
      refine ⟨_, PSs.nox (pss_cons (ps_set (i := 1) sc__law_draws.nd rfl (.inl rfl) (pe_lst pa_nil))
      (pss_cons (ps_for PassesOwn.never rfl (pi_range1 rfl T.b_range (pa_cons (pe_callB (call_min2 rfl) (by rfl) T.b_min (by decide +kernel) (pa_cons (pe_int) (pa_cons (pe_callB (call_lenK (K := K) rfl) (by rfl) T.b_len PySem.boot_len (pa_cons (pv 0) pa_nil)) (pa_nil)))) (pa_nil))) (pg_name (i := 2) sc__law_draws.nd rfl (.inl rfl))
       (pss_cons (ps_set (i := 3) sc__law_draws.nd rfl (.inl rfl) (pe_callB call_abs (by rfl) T.b_abs (by decide +kernel) (pa_cons (pe_ix (ix_listK (K := K) rfl) (pv 0) (pv 2) (fun _ _ => rfl)) pa_nil)))
        (pss_one (ps_if (pt_cmpR op_ge (pv 3) (pe_op op_pow (pe_int) (pe_int)) (by first | exact nomark _ | rfl))
         (pss_one (ps_for PassesOwn.never rfl (pi_range1 rfl T.b_range (pa_cons (pe_int) (pa_nil))) (pg_name (i := 4) sc__law_draws.nd rfl (.inl rfl))
           (pss_one (ps_if (pt_cmpR op_gt (pv 3) (pe_int) (by first | exact nomark _ | rfl))
             (pss_cons (ps_expr (pe_bm PySem.F.plainAttrs_list PySem.F.slot_list_append PySem.F.type_list_append mt_append (pv 1) (pa_cons (pe_op op_mod (pe_callTy call_int1 (by rfl) T.b_int (by decide +kernel) (pa_cons (pv 3) pa_nil)) (pe_int)) pa_nil)))
              (pss_one (ps_set (i := 3) sc__law_draws.nd rfl (.inl rfl) (pe_op op_fdiv (pv 3) (pe_int)))))
             (pss_nil)))))
         (pss_cons (ps_set (i := 5) sc__law_draws.nd rfl (.inl rfl) (pe_op op_mod (pe_callTy call_int1 (by rfl) T.b_int (by decide +kernel) (pa_cons (pe_op op_add (pe_op op_mul (pv 3) (pe_int)) (pe_op op_mul (pe_op op_add (pv 2) (pe_int)) (pe_int))) pa_nil)) (pe_int)))
          (pss_cons (ps_set (i := 5) sc__law_draws.nd rfl (.inl rfl) (pe_op op_mod (pe_callTy call_int1 (by rfl) T.b_int (by decide +kernel) (pa_cons (pe_op op_add (pe_op op_add (pe_op op_mul (pv 5) (pe_int)) (pe_op op_mul (pe_int) (pv 2))) (pe_int)) pa_nil)) (pe_int)))
          (pss_cons (ps_expr (pe_bm PySem.F.plainAttrs_list PySem.F.slot_list_append PySem.F.type_list_append mt_append (pv 1) (pa_cons (pe_op op_mod (pe_callTy call_int1 (by rfl) T.b_int (by decide +kernel) (pa_cons (pv 5) pa_nil)) (pe_int)) pa_nil)))
          (pss_one (ps_expr (pe_bm PySem.F.plainAttrs_list PySem.F.slot_list_append PySem.F.type_list_append mt_append (pv 1) (pa_cons (pe_op op_mod (pe_callTy call_int1 (by rfl) T.b_int (by decide +kernel) (pa_cons (pe_op op_fdiv (pv 5) (pe_int)) pa_nil)) (pe_int)) pa_nil)))))))))))
      (pss_one (ps_ret (pv 1))))), ?_⟩
      refine ⟨Nat.zero_le _, fun r hr0 => ?_⟩
      have hSr : ∀ ys : List V, SqL K (upd H r (.lst ys)) a (ns.map V.int) := fun ys => ex_l (Ex.new hr0) hS
      refine ⟨_, rfl, _, ns.length, rfl, .inl ⟨_, hSr _, by simp⟩, 63, (ns.length : Int), rfl, _, rfl, ?_, ?_, ?_⟩
      · split <;> omega
      · split <;> omega
      have hm1 : (if (ns.length : Int) < 63 then (ns.length : Int) else 63).toNat = ns.length := by split <;> omega
      rw [hm1]
      refine ⟨fun i m σ2 H2 => m = ns.length - i ∧ i ≤ ns.length ∧ ∃ (ls : List Int) (v2 v3 v4 v5 : Option V), σ2 = [some (.ref a), some (.ref r), v2, v3, v4, v5] ∧ H2 = upd H r (.lst (ls.map V.int)) ∧ ls.length ≤ 60 * i ∧ ∀ n ∈ ls, 0 ≤ n,
        ⟨ns.length, by omega, Nat.zero_le _, [], none, none, none, none, rfl, rfl, by simp, fun n hn => by cases hn⟩, ?_⟩
      rintro i m σ2 H2 ⟨rfl, hi, ls, v2, v3, v4, v5, rfl, rfl, hl, hpos⟩
      by_cases hlt : i < ns.length
      · refine .inr ⟨hlt, fun σ3 H3 => i + 1 ≤ ns.length ∧ ∃ (ls : List Int) (v2 v3 v4 v5 : Option V), σ3 = [some (.ref a), some (.ref r), v2, v3, v4, v5] ∧ H3 = upd H r (.lst (ls.map V.int)) ∧ ls.length ≤ 60 * (i + 1) ∧ ∀ n ∈ ls, 0 ≤ n,
          fun σ3 H3 ⟨l3, z⟩ => ⟨ns.length - (i + 1), by omega, rfl, l3, z⟩, fun v H' y => ?_⟩
        obtain ⟨rfl, rfl⟩ := y
        have eni : (ns.map V.int)[i]? = some (.int ns[i]) := by rw [List.getElem?_map, List.getElem?_eq_getElem hlt]; rfl
        refine ⟨_, rfl, _, rfl, a, _, _, _, rfl, rfl, hSr _, by rw [Int.zero_add]; exact atI_nat eni, _, rfl, ?_⟩
        have hr0' : 0 ≤ (if ns[i] < 0 then -ns[i] else ns[i]) := by split <;> omega
        generalize (if ns[i] < 0 then -ns[i] else ns[i]) = rest at hr0'
        have ek : (0 : Int) + (i : Int) = (i : Int) := by omega
        rw [ek]
        refine ⟨_, rfl, _, _, rfl, rfl, (show CPow 10 18 from ⟨by decide, by decide, by decide⟩), _, _, rfl, rfl, _, rfl, ?_⟩
        have ib : i < 63 := by omega
        by_cases hbig : decide ((10 : Int) ^ (18 : Int).toNat ≤ rest) = true
        · dsimp only
          rw [if_pos hbig]
          refine ⟨60, rfl, by decide, by decide, ?_⟩
          refine ⟨fun j m σ4 H4 => m = 60 - j ∧ j ≤ 60 ∧ ∃ (ls : List Int) (v4 : Option V) (rest : Int), 0 ≤ rest ∧ σ4 = [some (.ref a), some (.ref r), some (.int (i : Int)), some (.int rest), v4, v5] ∧ H4 = upd H r (.lst (ls.map V.int)) ∧ ls.length ≤ 60 * i + j ∧ ∀ n ∈ ls, 0 ≤ n,
            ⟨60, by omega, Nat.zero_le _, ls, v4, rest, hr0', rfl, rfl, by omega, hpos⟩, ?_⟩
          rintro j m σ4 H4 ⟨rfl, hj, ls, v4, rest, hr1, rfl, rfl, hl, hpos⟩
          by_cases hjt : j < 60
          · refine .inr ⟨hjt, fun σ5 H5 => j + 1 ≤ 60 ∧ ∃ (ls : List Int) (v4 : Option V) (rest : Int), 0 ≤ rest ∧ σ5 = [some (.ref a), some (.ref r), some (.int (i : Int)), some (.int rest), v4, v5] ∧ H5 = upd H r (.lst (ls.map V.int)) ∧ ls.length ≤ 60 * i + (j + 1) ∧ ∀ n ∈ ls, 0 ≤ n,
              fun σ5 H5 ⟨l5, z⟩ => ⟨60 - (j + 1), by omega, rfl, l5, z⟩, fun v H' y => ?_⟩
            obtain ⟨rfl, rfl⟩ := y
            refine ⟨_, rfl, _, _, rfl, rfl, _, rfl, ?_⟩
            by_cases hp : decide ((0 : Int) < rest) = true
            · dsimp only
              rw [if_pos hp]
              refine z_app rfl (z_opC (g := fun i j => i % j) (z_intc (z_var rfl)) z_int (by decide)) upd_same (by rw [List.length_map]; omega) ?_
              refine z_opC (g := fun i j => i / j) (C := CDiv) (z_var rfl) z_int ⟨by decide, by decide⟩ _ _ ?_
              refine ⟨hjt, ls ++ [rest % 65536], _, rest / 65536, Int.ediv_nonneg hr1 (by decide), rfl, ?_, by simp; omega, fun n hn => ?_⟩
              · rw [upd_upd, List.map_append]; rfl
              · rcases List.mem_append.mp hn with z | z
                · exact hpos n z
                · rw [List.mem_singleton.mp z]; exact Int.emod_nonneg _ (by decide)
            · dsimp only
              rw [if_neg hp]
              exact ⟨hjt, ls, _, rest, hr1, rfl, rfl, by omega, hpos⟩
          · have ej : j = 60 := by omega
            subst ej
            exact .inl ⟨Nat.le_refl _, hlt, ls, _, _, _, _, rfl, rfl, by omega, hpos⟩
        · dsimp only
          rw [if_neg hbig]
          refine z_opC (g := fun i j => i % j) (z_intc (z_op0 (g := fun i j => i + j) (z_opC (g := fun i j => i * j) (C := CMul) (z_var rfl) z_int (.inr ⟨by decide, by decide⟩)) (z_opC (g := fun i j => i * j) (C := CMul) (z_op0 (g := fun i j => i + j) (z_var rfl) z_int) z_int (.inr ⟨by decide, by decide⟩)))) z_int (by decide) _ _ ?_
          refine z_opC (g := fun i j => i % j) (z_intc (z_op0 (g := fun i j => i + j) (z_op0 (g := fun i j => i + j) (z_opC (g := fun i j => i * j) (C := CMul) (z_var rfl) z_int (.inr ⟨by decide, by decide⟩)) (z_opC (g := fun i j => i * j) (C := CMul) z_int (z_var rfl) (.inl ⟨by decide, by decide⟩))) z_int)) z_int (by decide) _ _ ?_
          refine z_app rfl (z_opC (g := fun i j => i % j) (z_intc (z_var rfl)) z_int (by decide)) upd_same (by rw [List.length_map]; omega) ?_
          refine z_app rfl (z_opC (g := fun i j => i % j) (z_intc (z_opC (g := fun i j => i / j) (C := CDiv) (z_var rfl) z_int ⟨by decide, by decide⟩)) z_int (by decide)) upd_same (by simp; omega) ?_
          generalize ((((rest * 48271 + ((i : Int) + 1) * 69621) % 2147483647) * 16807 + 11 * (i : Int) + 5) % 2147483629) = mx
          refine ⟨hlt, ls ++ [mx % 65536] ++ [mx / 65536 % 32768], _, _, _, _, rfl, ?_, by simp; omega, fun n hn => ?_⟩
          · rw [upd_upd, upd_upd, List.map_append, List.map_append]; rfl
          · rcases List.mem_append.mp hn with z | z
            · rcases List.mem_append.mp z with z | z
              · exact hpos n z
              · rw [List.mem_singleton.mp z]; exact Int.emod_nonneg _ (by decide)
            · rw [List.mem_singleton.mp z]; exact Int.emod_nonneg _ (by decide)
      · have ei : i = ns.length := by omega
        subst ei
        refine .inl ⟨Nat.le_refl _, _, rfl, ?_⟩
        have hg : Grow G H (upd G r (.lst (ls.map V.int))) (upd H r (.lst (ls.map V.int))) := .lay hG _ hr0
        refine k ls _ _ _ hpos (by omega) hg (.lst upd_same ?_)
        exact isl_ints _ ls
  exact ⟨_, fd, ["_law_script"], [], ok, hm, F.kp, F.bindsN (fun _ _ _ _ _ _ us hl => match us, hl with | [_], _ => rfl), .nil⟩

end
end K49

set_option Elab.async false
set_option linter.all false
set_option maxRecDepth 100000
/-! K49Ok: code points stay in their range. -/
namespace K49
def okT (t : Tx) : Prop := ∀ c ∈ t, c < 1114112
def okS (s : Sta) : Prop := okT s.el ∧ okT s.pd
def EB (es : List Evt) : Prop := ∀ e ∈ es, ∀ t, e.2 = .tx t → okT t
def okR (r : Res) : Prop := okS r.1 ∧ EB r.2
def Nxt.ok : Nxt → Prop
  | .go r => okR r
  | .again s e => okS s ∧ EB e
theorem ok0 : okT [] := fun c h => by cases h
theorem ok1 {c : Nat} (h : c < 1114112) : okT [c] := fun d hd => by rw [List.mem_singleton.mp hd]; exact h
theorem okA {a b : Tx} (h1 : okT a) (h2 : okT b) : okT (a ++ b) := fun c hc => (List.mem_append.mp hc).elim (h1 c) (h2 c)
theorem eb0 : EB [] := fun e h => by cases h
theorem ebC {k : Kd} {t : Tx} {es : List Evt} (h : okT t) (h2 : EB es) : EB ((k, .tx t) :: es) := fun e he u hu => by
  rcases List.mem_cons.mp he with rfl | z
  · injection hu with hu; rw [← hu]; exact h
  · exact h2 e z u hu
theorem ebA {a b : List Evt} (h1 : EB a) (h2 : EB b) : EB (a ++ b) := fun e he => (List.mem_append.mp he).elim (h1 e) (h2 e)
theorem ebE {k : Kd} {t : Tx} (h : okT t) : EB (evs k t) := fun e he u hu => by
  obtain ⟨c, hc, rfl⟩ := List.mem_map.mp he
  injection hu with hu
  rw [← hu]; exact ok1 (h c hc)
theorem ok_ref {t v : Tx} (h : refT t = some v) : okT v := by
  unfold refT at h
  split at h
  · rename_i w e
    injection h with h
    subst h
    have hm := List.mem_of_find?_eq_some (p := fun q : Tx × Tx => t == q.1) (l := NAMD) (a := (t, w)) (by
      have : ∀ l : List (Tx × Tx), l.lookup t = some w → l.find? (fun q => t == q.1) = some (t, w) := fun l => by
        induction l with
        | nil => intro h; cases h
        | cons q l ih =>
          intro h
          rw [List.lookup_cons] at h
          rw [List.find?_cons]
          cases e : (t == q.1) with
          | true =>
            rw [e] at h
            have e2 := eq_of_beq e
            injection h with h
            rw [e2, ← h]
          | false => rw [e] at h; exact ih h
      exact this NAMD e)
    simp only [NAMD, List.mem_cons, List.not_mem_nil, or_false, Prod.mk.injEq] at hm
    rcases hm with ⟨_, rfl⟩ | ⟨_, rfl⟩ | ⟨_, rfl⟩ | ⟨_, rfl⟩
    · exact ok0
    · exact ok1 (by decide)
    · exact ok1 (by decide)
    · exact ok1 (by decide)
  · split at h
    · unfold chrOf at h
      split at h
      · rename_i hc
        injection h with h
        rw [← h]
        refine ok1 ?_
        have z : ∀ n ∈ CHRS, n < 1114112 := by decide +kernel
        exact z _ hc
      · cases h
    · cases h
theorem ok_gap {s : Sta} {c : Nat} (h : okS s) (hc : c < 1114112) : okR (stGap s c) := by
  unfold stGap
  split
  · exact ⟨h, eb0⟩
  split
  · exact ⟨⟨h.1, ok0⟩, ebC (ok1 hc) eb0⟩
  split
  · exact ⟨⟨ok0, ok0⟩, ebC ok0 eb0⟩
  · exact ⟨⟨h.1, ok0⟩, ebC ok0 eb0⟩
theorem ok_settA {s : Sta} (h : okS s) : (settA s).ok := ⟨⟨h.1, ok0⟩, ebE h.2⟩
theorem ok_stRef {s : Sta} {c : Nat} (h : okS s) (hc : c < 1114112) : (stRef s c).ok := by
  unfold stRef
  split
  · rename_i v hv
    exact ⟨⟨h.1, ok0⟩, ebE (ok_ref hv)⟩
  · split
    · exact ⟨⟨h.1, okA h.2 (ok1 hc)⟩, eb0⟩
    · exact ok_settA h
theorem ok_longer {el : Tx} {c : Nat} (h : okT el) (hc : c < 1114112) : okT (longer el c) := by
  unfold longer
  split
  · exact okA h (ok1 hc)
  · exact ok1 (by decide)
theorem ok_el {s : Sta} (h : okS s) (p : Pl) : okS ⟨p, if s.el ∈ rawEls then s.el else [45], []⟩ := by
  refine ⟨?_, ok0⟩
  show okT (if s.el ∈ rawEls then s.el else [45])
  split
  · exact h.1
  · exact ok1 (by decide)
theorem ok_stp1 {s : Sta} {c : Nat} (h : okS s) (hc : c < 1114112) : (stp1 s c).ok := by
  have c1 := ok1 hc
  have p45 : okT [45] := ok1 (by decide)
  have hv : (stVal s c).ok := by
    unfold stVal
    split
    · exact ok_stRef h hc
    split
    · exact ⟨⟨h.1, ok1 (by decide)⟩, eb0⟩
    split
    · exact ok_gap (s := ⟨.gap, s.el, []⟩) ⟨h.1, ok0⟩ hc
    split
    · exact ⟨⟨h.1, ok0⟩, eb0⟩
    · exact ⟨h, ebC c1 eb0⟩
  unfold stp1
  cases s.p with
  | text =>
    show (stText s c).ok
    unfold stText
    split
    · exact ok_stRef h hc
    split
    · exact ⟨⟨ok0, c1⟩, eb0⟩
    split
    · exact ⟨h, ebC c1 eb0⟩
    split
    · exact ⟨⟨ok0, ok0⟩, ebC ok0 eb0⟩
    split
    · exact ⟨⟨p45, ok0⟩, ebC ok0 eb0⟩
    split
    · exact ⟨⟨ok0, okA h.2 c1⟩, eb0⟩
    split
    · exact ⟨⟨ok0, ok0⟩, ebC ok0 eb0⟩
    · exact ok_settA h
  | tag =>
    show okR (stTag s c)
    unfold stTag
    split
    · exact ⟨⟨ok_longer h.1 hc, ok0⟩, ebC c1 eb0⟩
    · exact ok_gap (ok_el h _) hc
  | gap => exact ok_gap h hc
  | name =>
    show okR (stName s c)
    unfold stName
    split
    · exact ok_gap (s := ⟨.gap, s.el, []⟩) ⟨h.1, ok0⟩ hc
    split
    · exact ⟨⟨h.1, ok0⟩, eb0⟩
    · exact ⟨h, ebC c1 eb0⟩
  | equals =>
    show (stEq s c).ok
    unfold stEq
    split
    · exact ⟨⟨h.1, ok0⟩, ebC ok0 eb0⟩
    split
    · exact ⟨⟨h.1, ok0⟩, ebC ok0 eb0⟩
    split
    · exact ok_gap (s := ⟨.gap, s.el, []⟩) ⟨h.1, ok0⟩ hc
    · exact ⟨⟨h.1, ok0⟩, ebC ok0 eb0⟩
  | bare => exact hv
  | double => exact hv
  | single => exact hv
  | comment =>
    show (stCom s c).ok
    unfold stCom
    split
    · exact ⟨⟨ok0, ok0⟩, ebC ok0 eb0⟩
    split
    · exact ⟨h, ebC p45 eb0⟩
    split
    · exact ⟨⟨ok0, okA h.2 p45⟩, eb0⟩
    split
    · exact ok_settA h
    · exact ⟨h, ebC c1 eb0⟩
  | raw =>
    show (stRaw s c).ok
    unfold stRaw
    split
    · exact ⟨⟨p45, ok0⟩, ebC ok0 (ebE h.1)⟩
    split
    · exact ⟨⟨h.1, okA h.2 c1⟩, eb0⟩
    split
    · exact ok_settA h
    · exact ⟨h, ebC c1 eb0⟩
theorem ok_stpG {s : Sta} {c : Nat} (h : okS s) (hc : c < 1114112) : okR (stpG s c) := by
  have z := ok_stp1 h hc
  unfold stpG
  cases e : stp1 s c with
  | go r => rw [e] at z; exact z
  | again s' e => exact ⟨h, eb0⟩
theorem ok_stp {s : Sta} {c : Nat} (h : okS s) (hc : c < 1114112) : okR (stp s c) := by
  have z := ok_stp1 h hc
  unfold stp
  cases e : stp1 s c with
  | go r => rw [e] at z; exact z
  | again s' e' =>
    rw [e] at z
    have y := ok_stpG z.1 hc
    exact ⟨y.1, ebA z.2 y.2⟩
theorem ok_fin {s : Sta} (h : okS s) : EB (finE s) := by
  unfold finE
  refine ebA ?_ ?_
  · split
    · exact ebE h.2
    · exact eb0
  · split
    · exact eb0
    · exact ebC ok0 eb0
theorem ok_run : ∀ (t : Tx) {s : Sta}, okS s → okT t → okR (runR s (itms t))
  | [], s, h, _ => ⟨h, eb0⟩
  | c :: t, s, h, ht => by
    have y := ok_stp h (ht c List.mem_cons_self)
    have z := ok_run t y.1 fun d hd => ht d (List.mem_cons_of_mem _ hd)
    exact ⟨z.1, ebA y.2 z.2⟩
theorem ok_evR {t : Tx} (h : okT t) : EB (evR start (itms t)) := by
  have z := ok_run t (s := start) ⟨ok0, ok0⟩ h
  exact ebA z.2 (ok_fin z.1)
/-! ### of tokens -/
def okF (f : FTok) : Prop := okT f.s ∧ ∀ l, f.ats = some l → ∀ q ∈ l, okT q.1 ∧ ∀ v, q.2 = some v → okT v
theorem ok_join {l : List Item} (h : ∀ i ∈ l, ∀ t, i = .tx t → okT t) : okT (joinT [] l) := fun c hc => by
  unfold joinT at hc
  obtain ⟨t, ht, hct⟩ := List.mem_flatten.mp hc
  obtain ⟨i, hi, rfl⟩ := List.mem_map.mp ht
  cases i with
  | tx t => exact h _ hi t rfl c hct
  | mk n => simp [itT] at hct
theorem ok_read {t : Tx} (h : okT t) : ∀ f ∈ readP t, okF f := fun f hf => by
  unfold readP at hf
  rw [fills_ft] at hf
  obtain ⟨s, hs, rfl⟩ := List.mem_map.mp (List.mem_filter.mp hf).1
  obtain ⟨k, hk, rfl⟩ := List.mem_map.mp hs
  have b := TB.build (P := fun i => ∀ t, i = .tx t → okT t) (evR start (itms t)) (ok_evR h) _ (Nat.le_refl _)
  rw [List.take_length] at b
  have bk := b.2 k hk
  refine ⟨ok_join bk.1, fun l hl q hq => ?_⟩
  unfold finS at hl
  simp only at hl
  split at hl
  · injection hl with hl
    subst hl
    obtain ⟨r, hr, rfl⟩ := List.mem_map.mp hq
    have br := bk.2.2.2 r hr
    refine ⟨ok_join br.1, fun v hv => ?_⟩
    unfold flPair at hv
    simp only at hv
    cases e : r.2 with
    | none => rw [e] at hv; cases hv
    | some x =>
      rw [e] at hv
      injection hv with hv
      rw [← hv]
      exact ok_join (br.2.2 x e).1
  · cases hl
end K49

set_option Elab.async false
set_option linter.all false
set_option maxRecDepth 100000
/-! K49Lb: the law walked. -/
namespace K49
open PySem L2
def MENU : List Tx := [[97], [60], [98], [62], [60, 98, 32], [32, 99, 61], [61], [34], [39], [60, 33, 45, 45], [45], [45, 45], [45, 62], [45, 45, 62], [38], [38, 108], [116, 59], [38, 35],
  [49], [48, 59], [59], [47], [60, 47], [60, 115, 99, 114, 105, 112, 116, 62], [60, 47, 115, 99, 114, 105, 112, 116], [60, 115, 116, 121, 108, 101, 32], [32], [10], [33], [120, 62], [60, 105, 32, 116, 61, 39], [38, 97, 109]]
def rowM (ls : List Int) (first : Int) (n : Nat) : Tx := (List.range n).flatMap fun (k : Nat) => MENU.getD (atM ls (first + (k : Int)) 32).toNat []
def R__law_row : List PyData → PyData → Prop := fun l d => ∃ (ls : List Int) (first many : Int), l = [intsD ls, .int first, .int many] ∧ 0 ≤ first ∧ 0 ≤ many ∧ many ≤ 7 ∧ d = pS (rowM ls first many.toNat)
theorem MENU_len (j : Nat) : (MENU.getD j []).length ≤ 8 := by
  by_cases h : j < 32
  · have z : ∀ j, j < 32 → (MENU.getD j []).length ≤ 8 := by decide
    exact z j h
  · rw [List.getD_eq_getElem?_getD, List.getElem?_eq_none (by show 32 ≤ j; omega)]
    simp
theorem rowM_succ (ls : List Int) (first : Int) (n : Nat) : rowM ls first (n + 1) = rowM ls first n ++ MENU.getD (atM ls (first + (n : Int)) 32).toNat [] := by
  unfold rowM
  rw [List.range_succ, List.flatMap_append]
  simp
theorem rowM_len (ls : List Int) (first : Int) : ∀ n, (rowM ls first n).length ≤ 8 * n
  | 0 => Nat.le_refl _
  | n + 1 => by
    have z := rowM_len ls first n
    have y := MENU_len (atM ls (first + (n : Int)) 32).toNat
    rw [rowM_succ, List.length_append]
    omega
/-! ### equality of what was read -/
theorem eqv_S (a b : Tx) : PyData.eqv (pS a) (pS b) = decide (a = b) := by
  show (SX.S a == SX.S b) = _
  by_cases h : a = b
  · subst h; simp
  · have h2 : ¬ SX.S a = SX.S b := fun z => h (SX.S_inj z)
    rw [beq_eq_false_iff_ne.mpr h2, decide_eq_false h]
theorem eqvAll_map {α : Type} [DecidableEq α] {f : α → PyData} (hf : ∀ a b, PyData.eqv (f a) (f b) = decide (a = b)) : ∀ l m : List α, PyData.eqvAll (l.map f) (m.map f) = decide (l = m)
  | [], [] => by simp [PyData.eqvAll]
  | [], _ :: _ => by simp [PyData.eqvAll]
  | _ :: _, [] => by simp [PyData.eqvAll]
  | a :: l, b :: m => by
    rw [List.map_cons, List.map_cons, PyData.eqvAll, hf, eqvAll_map hf l m]
    by_cases h1 : a = b <;> by_cases h2 : l = m <;> simp [h1, h2]
theorem eqv_opt (a b : Option Tx) : PyData.eqv (optD a) (optD b) = decide (a = b) := by
  cases a with
  | none => cases b with
    | none => simp [optD, PyData.eqv]
    | some t => simp [optD, PyData.eqv]
  | some t => cases b with
    | none => simp [optD, PyData.eqv]
    | some u =>
      show PyData.eqv (pS t) (pS u) = _
      rw [eqv_S]
      by_cases h : t = u <;> simp [h]
theorem eqv_fp (p q : Tx × Option Tx) : PyData.eqv (fpD p) (fpD q) = decide (p = q) := by
  unfold fpD
  rw [PyData.eqv, PyData.eqvAll, PyData.eqvAll, PyData.eqvAll, eqv_S, eqv_opt]
  by_cases h1 : p.1 = q.1 <;> by_cases h2 : p.2 = q.2 <;> simp [h1, h2, Prod.ext_iff]
theorem kd_t (a b : Kd) : decide (a.t = b.t) = decide (a = b) := by cases a <;> cases b <;> decide
theorem eqv_ft (a b : FTok) : PyData.eqv a.d b.d = decide (a = b) := by
  obtain ⟨k, s, ats⟩ := a
  obtain ⟨k', s', ats'⟩ := b
  cases ats with
  | none =>
    cases ats' with
    | none =>
      show PyData.eqv (.tuple [pS k.t, pS s]) (.tuple [pS k'.t, pS s']) = _
      rw [PyData.eqv, PyData.eqvAll, PyData.eqvAll, PyData.eqvAll, eqv_S, eqv_S, kd_t]
      by_cases h1 : k = k' <;> by_cases h2 : s = s' <;> simp [h1, h2]
    | some l =>
      show PyData.eqv (.tuple [pS k.t, pS s]) (.tuple [pS k'.t, pS s', _]) = _
      rw [PyData.eqv, PyData.eqvAll, PyData.eqvAll, PyData.eqvAll]
      simp
  | some l =>
    cases ats' with
    | none =>
      show PyData.eqv (.tuple [pS k.t, pS s, _]) (.tuple [pS k'.t, pS s']) = _
      rw [PyData.eqv, PyData.eqvAll, PyData.eqvAll, PyData.eqvAll]
      simp
    | some m =>
      show PyData.eqv (.tuple [pS k.t, pS s, .list (l.map fpD)]) (.tuple [pS k'.t, pS s', .list (m.map fpD)]) = _
      rw [PyData.eqv, PyData.eqvAll, PyData.eqvAll, PyData.eqvAll, PyData.eqvAll, eqv_S, eqv_S, kd_t, PyData.eqv, eqvAll_map eqv_fp]
      by_cases h1 : k = k' <;> by_cases h2 : s = s' <;> by_cases h3 : l = m <;> simp [h1, h2, h3]
def toksD (ts : List FTok) : PyData := .list (ts.map FTok.d)
theorem eqv_toks (a b : List FTok) : PyData.eqv (toksD a) (toksD b) = decide (a = b) := by
  unfold toksD
  rw [PyData.eqv, eqvAll_map eqv_ft]
theorem lay_all : ∀ l : List PyData, (∀ d ∈ l, d.canLay0 = true ∧ d.depth ≤ 10) → PyData.canLayAll0 l = true ∧ PyData.depthAll l ≤ 10
  | [], _ => ⟨by simp [PyData.canLayAll0], by simp [PyData.depthAll]⟩
  | d :: l, h => by
    obtain ⟨h1, h2⟩ := h d List.mem_cons_self
    obtain ⟨h3, h4⟩ := lay_all l fun e he => h e (List.mem_cons_of_mem _ he)
    refine ⟨by simp [PyData.canLayAll0, h1, h3], ?_⟩
    rw [PyData.depthAll]
    omega
theorem lay_allN (n : Nat) : ∀ l : List PyData, (∀ d ∈ l, d.canLay0 = true ∧ d.depth ≤ n) → PyData.canLayAll0 l = true ∧ PyData.depthAll l ≤ n
  | [], _ => ⟨by simp [PyData.canLayAll0], by simp [PyData.depthAll]⟩
  | d :: l, h => by
    obtain ⟨h1, h2⟩ := h d List.mem_cons_self
    obtain ⟨h3, h4⟩ := lay_allN n l fun e he => h e (List.mem_cons_of_mem _ he)
    refine ⟨by simp [PyData.canLayAll0, h1, h3], ?_⟩
    rw [PyData.depthAll]
    omega
theorem lay_S {t : Tx} (h : okT t) : (pS t).canLay0 = true ∧ (pS t).depth ≤ 0 := by
  refine ⟨?_, by simp [PyData.depth]⟩
  rw [PyData.canLay0]
  unfold PyData.strOk
  rw [← Array.all_toList]
  refine List.all_eq_true.mpr fun c hc => ?_
  exact decide_eq_true (h c hc)
theorem lay_opt {o : Option Tx} (h : ∀ v, o = some v → okT v) : (optD o).canLay0 = true ∧ (optD o).depth ≤ 0 := by
  cases o with
  | none => exact ⟨by simp [optD, PyData.canLay0], by simp [optD, PyData.depth]⟩
  | some t => exact lay_S (h t rfl)
theorem lay_tup {n : Nat} {l : List PyData} (h : ∀ d ∈ l, d.canLay0 = true ∧ d.depth ≤ n) : (PyData.tuple l).canLay0 = true ∧ (PyData.tuple l).depth ≤ n + 1 := by
  obtain ⟨h1, h2⟩ := lay_allN n l h
  exact ⟨by simp [PyData.canLay0, h1], by rw [PyData.depth]; omega⟩
theorem lay_lst {n : Nat} {l : List PyData} (h : ∀ d ∈ l, d.canLay0 = true ∧ d.depth ≤ n) : (PyData.list l).canLay0 = true ∧ (PyData.list l).depth ≤ n + 1 := by
  obtain ⟨h1, h2⟩ := lay_allN n l h
  exact ⟨by simp [PyData.canLay0, h1], by rw [PyData.depth]; omega⟩
theorem lay_up {n m : Nat} {d : PyData} (h : d.canLay0 = true ∧ d.depth ≤ n) (l : n ≤ m) : d.canLay0 = true ∧ d.depth ≤ m := ⟨h.1, Nat.le_trans h.2 l⟩
theorem ok_kd (k : Kd) : okT k.t := by cases k <;> (intro c; revert c; decide)
theorem lay_ft {t : FTok} (h : okF t) : t.d.canLay0 = true ∧ t.d.depth ≤ 4 := by
  obtain ⟨k, s, ats⟩ := t
  cases ats with
  | none =>
    refine lay_up (lay_tup (n := 0) fun d hd => ?_) (by decide)
    rcases List.mem_cons.mp hd with rfl | hd
    · exact lay_S (ok_kd k)
    · rw [List.mem_singleton.mp hd]; exact lay_S h.1
  | some l =>
    refine lay_up (lay_tup (n := 2) fun d hd => ?_) (by decide)
    rcases List.mem_cons.mp hd with rfl | hd
    · exact lay_up (lay_S (ok_kd k)) (by decide)
    · rcases List.mem_cons.mp hd with rfl | hd
      · exact lay_up (lay_S h.1) (by decide)
      · rw [List.mem_singleton.mp hd]
        refine lay_lst (n := 1) fun e he => ?_
        obtain ⟨q, hq, rfl⟩ := List.mem_map.mp he
        have hq := h.2 l rfl q hq
        refine lay_tup (n := 0) fun d hd => ?_
        rcases List.mem_cons.mp hd with rfl | hd
        · exact lay_S hq.1
        · rw [List.mem_singleton.mp hd]; exact lay_opt hq.2
theorem shaped_toks {ts : List FTok} (h0 : ∀ t ∈ ts, okF t) : SeqAt.shaped (toksD ts) = true := by
  have h := lay_lst (n := 4) (l := ts.map FTok.d) fun d hd => by
    obtain ⟨t, ht, rfl⟩ := List.mem_map.mp hd
    exact lay_ft (h0 t ht)
  unfold SeqAt.shaped toksD
  rw [h.1, Bool.true_and]
  exact decide_eq_true (by have := h.2; omega)
section
variable {K : PySem.W.Frag}
theorem rv_eqDa {d e : PyData} (hd : SeqAt.shaped d = true) (he : SeqAt.shaped e = true) : RV K (rEqD K) d e (.bool (PyData.eqv d e)) := fun G H v w x hv hw Q q =>
  ⟨d, e, Is.dp x d v hv, Is.dp x e w hw, hd, he, q _ G H (.refl x) (.bl _)⟩
theorem rv_neDa {d e : PyData} (hd : SeqAt.shaped d = true) (he : SeqAt.shaped e = true) : RV K (rNeD K) d e (.bool (!PyData.eqv d e)) := fun G H v w x hv hw Q q =>
  ⟨d, e, Is.dp x d v hv, Is.dp x e w hw, hd, he, q _ G H (.refl x) (.bl _)⟩
theorem rv_eqT2 {a b : List FTok} (ha : ∀ t ∈ a, okF t) (hb : ∀ t ∈ b, okF t) : RV K (rEqD K) (toksD a) (toksD b) (.bool (decide (a = b))) := by rw [← eqv_toks]; exact rv_eqDa (shaped_toks ha) (shaped_toks hb)
theorem rv_neT2 {a b : List FTok} (ha : ∀ t ∈ a, okF t) (hb : ∀ t ∈ b, okF t) : RV K (rNeD K) (toksD a) (toksD b) (.bool (!decide (a = b))) := by rw [← eqv_toks]; exact rv_neDa (shaped_toks ha) (shaped_toks hb)
theorem rv_notBl {a b : Bool} : RV K rNotB (.bool a) (.bool b) (.bool (!decide (a = b))) := fun G H v w x hv hw Q q => by
  rw [hv.bl_, hw.bl_]
  exact ⟨_, _, rfl, rfl, q _ G H (.refl x) (.bl _)⟩
end
/-! ### sizes -/
theorem leastR_len6 {c : Nat} (h : c ∈ imS) : (leastR c).length ≤ 6 := by
  simp only [imS, List.mem_cons, List.not_mem_nil, or_false] at h
  rcases h with rfl | rfl | rfl | rfl | rfl | rfl | rfl <;> decide +kernel
theorem img_len6 {im : List (Nat × Tx)} (h : ∀ q ∈ im, q.2.length ≤ 6) (c : Nat) : (imgOf im c).length ≤ 6 := by
  cases e : im.find? (fun q => decide ([q.1] = [c])) with
  | none => rw [img_miss e]; simp
  | some a => rw [img_hit e]; exact h a (List.mem_of_find?_eq_some e)
theorem flat_len6 : ∀ {l : List Tx}, (∀ t ∈ l, t.length ≤ 6) → l.flatten.length ≤ 6 * l.length
  | [], _ => by simp
  | t :: l, h => by
    have z := flat_len6 (l := l) fun u hu => h u (List.mem_cons_of_mem _ hu)
    have y := h t List.mem_cons_self
    rw [List.flatten_cons, List.length_append, List.length_cons]; omega
structure Cod6 (c : Cod) : Prop where
  pre : c.1.length ≤ 2
  im : ∀ q ∈ c.2, q.2.length ≤ 6
  n : c.2.length ≤ 4
theorem Cod6.ok {c : Cod} (h : Cod6 c) : CodOK c := ⟨by have := h.pre; omega, by have := h.n; omega, fun q hq => by have := h.im q hq; omega⟩
theorem Cod6.len {c : Cod} (h : Cod6 c) {t : Tx} (ht : t.length ≤ 4) : (coded c t).length ≤ 26 := by
  unfold coded
  rw [List.length_append]
  have z := flat_len6 (l := t.map (imgOf c.2)) fun u hu => by
    obtain ⟨d, _, rfl⟩ := List.mem_map.mp hu
    exact img_len6 h.im d
  rw [List.length_map] at z
  have := h.pre
  omega
theorem codeO6 (s : Sta) : Cod6 (codeO s) := by
  unfold codeO
  refine ⟨?_, fun q hq => ?_, ?_⟩
  · show (if s.p = .equals ∨ s.pd ≠ [] then [38, 59] else []).length ≤ 2
    split <;> simp
  · obtain ⟨c, hc, rfl⟩ := List.mem_map.mp hq
    exact leastR_len6 (images_mem hc)
  · show ((images s.p).map _).length ≤ 4
    rw [List.length_map]
    cases s.p <;> simp [images]
theorem lackOf6 (s : Sta) (n : Option Nat) : Cod6 (lackOf s n) := by
  have h := codeO6 s
  cases n with
  | none => exact ⟨Nat.zero_le _, h.im, h.n⟩
  | some c => exact ⟨h.pre, fun q hq => h.im q (List.mem_filter.mp hq).1, Nat.le_trans (List.length_filter_le _ _) h.n⟩
theorem trial_comp {s : Sta} {n : Option Nat} (g : Good s) (hn : n ∈ needL s) : n = none → s.p ≠ .equals → STAL.lookup s.pd = none → ∃ X, complF 4 s.pd [[]] = some X := fun e he hl => by
  subst e
  obtain ⟨ho, hc⟩ := need_none hn
  rcases good_pd g ho (hc.resolve_left he) with hb | ⟨_, hb⟩
  · exact compl_beg hb
  · exfalso
    rcases hb with z | z | z | z <;> (rw [z] at hl; cases hl)
theorem itD_map (t : Tx) : (itms t).map itD = t.map fun c => pS [c] := by unfold itms; rw [List.map_map]; rfl
theorem codP_inj {p q : Nat × Tx} (h : PyData.tuple [pS [p.1], pS p.2] = PyData.tuple [pS [q.1], pS q.2]) : p = q := by
  injection h with h
  injection h with h1 h2
  injection h2 with h2 _
  injection h1 with h1
  injection h2 with h2
  have z := SX.S_inj h1
  injection z with z _
  exact Prod.ext z (SX.S_inj h2)
theorem MENU_ok : ∀ t ∈ MENU, okT t := by unfold okT; decide
theorem rowM_ok (ls : List Int) (first : Int) (n : Nat) : okT (rowM ls first n) := fun c hc => by
  unfold rowM at hc
  obtain ⟨k, _, hk⟩ := List.mem_flatMap.mp hc
  generalize (atM ls (first + (k : Int)) 32).toNat = j at hk
  rw [List.getD_eq_getElem?_getD] at hk
  cases e : MENU[j]? with
  | none => rw [e] at hk; cases hk
  | some t => rw [e] at hk; exact MENU_ok t (List.mem_of_getElem? e) c hk
def Codo (c : Cod) : Prop := okT c.1 ∧ ∀ q ∈ c.2, okT q.2
theorem codeO6o (s : Sta) : Codo (codeO s) := by
  unfold codeO
  refine ⟨?_, fun q hq => ?_⟩
  · show okT (if s.p = .equals ∨ s.pd ≠ [] then [38, 59] else [])
    split
    · unfold okT; decide
    · exact ok0
  · obtain ⟨c, hc, rfl⟩ := List.mem_map.mp hq
    have z := images_mem hc
    have y : ∀ c ∈ imS, okT (leastR c) := by unfold okT; decide +kernel
    exact y c z
theorem lackOf6o (s : Sta) (n : Option Nat) : Codo (lackOf s n) := by
  have h := codeO6o s
  cases n with
  | none => exact ⟨ok0, h.2⟩
  | some c => exact ⟨h.1, fun q hq => h.2 q (List.mem_filter.mp hq).1⟩
theorem code_ok {c : Cod} {t : Tx} (h : Codo c) (ht : okT t) : okT (coded c t) := by
  unfold coded
  refine okA h.1 fun x hx => ?_
  obtain ⟨u, hu, hxu⟩ := List.mem_flatten.mp hx
  obtain ⟨d, hd, rfl⟩ := List.mem_map.mp hu
  cases e : c.2.find? (fun q => decide ([q.1] = [d])) with
  | none => rw [img_miss e] at hxu; rw [List.mem_singleton.mp hxu]; exact ht d hd
  | some a => rw [img_hit e] at hxu; exact h.2 a (List.mem_of_find?_eq_some e) x hxu
theorem page_ok {a b c : Tx} (h1 : okT a) (h2 : okT b) (h3 : okT c) : okT (a ++ b ++ c) := okA (okA h1 h2) h3
theorem trial_ok {s : Sta} {n : Option Nat} (g : Good s) (hn : n ∈ needL s) : okT (trialT s n) := by
  cases n with
  | some c =>
    have hc := images_mem (need_some hn).2
    rw [trial_some]
    have y : ∀ c ∈ imS, okT (trC c) := by unfold okT; decide
    exact y c hc
  | none =>
    obtain ⟨ho, hc⟩ := need_none hn
    by_cases he : s.p = .equals
    · have e : trialT s none = [34] := if_pos he
      rw [e]; exact ok1 (by decide)
    · have hp := op4_of ho he
      rcases good_pd g ho (hc.resolve_left he) with hb | ⟨_, hb⟩
      · rw [trial_ref hb he]
        have y : ∀ c ∈ SIGN, c < 1114112 := by decide
        exact fun c hc => y c ((run_compl hp hb).2.1 c hc)
      · unfold trialT
        simp only
        rw [if_neg he]
        rcases hb with e | e | e | e <;> rw [e] <;> (unfold okT; decide)
theorem law_start {K : PySem.W.Frag} {u : TS} {D : Ends} {a : Addr} {ns : List Int} {H : Hp} {E : XK} (hS : SqL K H a (ns.map V.int)) (hlen : ns.length ≤ 63)
    (h : ∀ ls : List Int, (∀ n ∈ ls, 0 ≤ n) → SD K u [none, some (intsD ls), none, none, none, none, none, none, none, none, none, none, none, none] none (.ret (.bool true))) (hD : ∀ v H', v = .bl true → D.rt v H') :
    tSeq (tAsg (tCall (spDraws K) [] E (tCons (tVar 0) tNil)) (gName 1)) u D [some (.ref a), none, none, none, none, none, none, none, none, none, none, none, none, none] H := by
  refine ⟨_, rfl, ?_⟩
  refine ⟨a, ns, fun _ => none, rfl, hS, hlen, (fun a o h => nomatch h), fun ls v G1 H1 hpos hll g1 r1 => ?_⟩
  have si : SI K (fun _ => none) H G1 H1 [some (.ref a), some v, none, none, none, none, none, none, none, none, none, none, none, none] [none, some (intsD ls), none, none, none, none, none, none, none, none, none, none, none, none] none :=
    ⟨g1, .any _ (.val r1 (.any _ (.any _ (.any _ (.any _ (.any _ (.any _ (.any _ (.any _ (.any _ (.any _ (.any _ (.any _ .nil))))))))))))), trivial⟩
  exact h ls hpos _ _ _ _ _ _ si fun v G' H' g' r' => hD v H' r'.bl_
theorem sd_go {K : PySem.W.Frag} {t : TS} {ds : List (Option PyData)} {o : Out} {σ : L2.St} {G0 H0 G H : Hp} {D : Ends} (h : SD K t ds none o) (s : SI K G0 H0 G H σ ds none) (q : OutW K G0 H0 G D o) : t D σ H := h σ G0 H0 G H D s q
/-- what the law promises: True -/
def spLaw (K : PySem.W.Frag) : Sp := fun vs H Q _ => ∃ (a : Addr) (ns : List Int), vs = [.ref a] ∧ SqL K H a (ns.map V.int) ∧ ns.length ≤ 63 ∧ ∀ H', Q (.bl true) H'
section
variable {P : Program} {w : World} {K : PySem.W.Frag} {mg : Str → Option Value} {base : Heap}

theorem sc__law_at : FnScope ["_law_draws_here", "_law_k", "_law_many"] ["_law_draws_here", "_law_k", "_law_many"] (defScope s__law_at) := ⟨rfl, rfl, rfl, by decide +kernel, rfl, by decide +kernel, by decide +kernel⟩
theorem cal__law_at (T : Fx K w mg)   : CalR P w K mg base 1 "_law_at" (R__law_at) := by
  refine cal_of T.f__law_at sc__law_at (fun _ _ _ _ _ _ us hl => match us, hl with | [_, _, _], _ => rfl) ?_ (fun f cdv A outer s H E hr => ⟨_, pss_cons (ps_if (pt_cmpR op_lt (pv 1) (pe_callB (call_lenK (K := K) rfl) (by rfl) T.b_len PySem.boot_len (pa_cons (pv 0) pa_nil)) (by first | exact nomark _ | rfl))
       (pss_one (ps_ret (pe_op op_mod (pe_callTy call_int1 (by rfl) T.b_int (by decide +kernel) (pa_cons (pe_ix (ix_listK (K := K) rfl) (pv 0) (pv 1) (fun _ _ => rfl)) pa_nil)) (pv 2))))
       (pss_nil))
      (pss_one (ps_ret (pe_int))), ?_⟩)
  · intro l d h
    obtain ⟨ls, k, many, rfl, hk, hm, rfl⟩ := h
    rfl
  · intro l d h
    obtain ⟨ls, k, many, rfl, hk, hm, rfl⟩ := h
    have hat : k < ls.length → atI (ls.map PyData.int) k = some (.int (ls.getD k.toNat 0)) := fun hlt => by
      have e : k = ((k.toNat : Nat) : Int) := by omega
      have hj : k.toNat < ls.length := by omega
      rw [e]
      refine atI_nat ?_
      have e2 : ls[k.toNat]? = some ls[k.toNat] := List.getElem?_eq_getElem hj
      rw [List.getElem?_map, e2, List.getD_eq_getElem?_getD, ← e, e2]
      rfl
    exact sd_ifq (et_test (ev_op (ev_var rfl) (ev_lenL (ev_var rfl)) rv_ltI))
       (fun h0 => sd_seqR (sd_is (sd_ret (ev_op (ev_intI (ev_op (ev_var rfl) (ev_var rfl) (rv_ixL (hat (by simpa using h0))))) (ev_var rfl) (rv_modI hm))) (by have z : k < ls.length := (by simpa using h0); unfold atM; rw [if_pos z])))
       (fun h0 => sd_nextq (sd_is (sd_ret (ev_int)) (by have z : ¬ k < ls.length := (by simpa using h0); unfold atM; rw [if_neg z])))

theorem sc__law_row : FnScope ["_law_draws_here", "_law_first", "_law_many", "_law_menu", "_law_out", "_law_k"] ["_law_draws_here", "_law_first", "_law_many"] (defScope s__law_row) := ⟨rfl, rfl, rfl, by decide +kernel, rfl, by decide +kernel, by decide +kernel⟩
theorem cal__law_row (T : Fx K w mg) (c__law_at : CalR P w K mg base 1 "_law_at" R__law_at)  : CalR P w K mg base 2 "_law_row" (R__law_row) := by
  refine cal_of T.f__law_row sc__law_row (fun _ _ _ _ _ _ us hl => match us, hl with | [_, _, _], _ => rfl) ?_ (fun f cdv A outer s H E hr => ⟨_, pss_cons (ps_set (i := 3) sc__law_row.nd rfl (.inl rfl) (pe_lst (pa_cons (pe_str) (pa_cons (pe_str) (pa_cons (pe_str) (pa_cons (pe_str) (pa_cons (pe_str) (pa_cons (pe_str) (pa_cons (pe_str) (pa_cons (pe_str) (pa_cons (pe_str) (pa_cons (pe_str) (pa_cons (pe_str) (pa_cons (pe_str) (pa_cons (pe_str) (pa_cons (pe_str) (pa_cons (pe_str) (pa_cons (pe_str) (pa_cons (pe_str) (pa_cons (pe_str) (pa_nil)))))))))))))))))))))
      (pss_cons (ps_set (i := 3) sc__law_row.nd rfl (.inl rfl) (pe_op op_cat (pv 3) (pe_lst (pa_cons (pe_str) (pa_cons (pe_str) (pa_cons (pe_str) (pa_cons (pe_str) (pa_cons (pe_str) (pa_cons (pe_str) (pa_cons (pe_str) (pa_cons (pe_str) (pa_cons (pe_str) (pa_cons (pe_str) (pa_cons (pe_str) (pa_cons (pe_str) (pa_cons (pe_str) (pa_cons (pe_str) (pa_nil))))))))))))))))))
      (pss_cons (ps_set (i := 4) sc__law_row.nd rfl (.inl rfl) (pe_str))
      (pss_cons (ps_for PassesOwn.never rfl (pi_range1 rfl T.b_range (pa_cons (pv 2) (pa_nil))) (pg_name (i := 5) sc__law_row.nd rfl (.inl rfl))
       (pss_one (ps_set (i := 4) sc__law_row.nd rfl (.inl rfl) (pe_op op_add_str (pv 4) (pe_ix (ix_listK (K := K) rfl) (pv 3) (C8.pe_c c__law_at hr (by omega) rfl (pa_cons (pv 0) (pa_cons (pe_op op_add (pv 1) (pv 5)) (pa_cons (pe_int) (pa_nil))))) (fun _ _ => rfl))))))
      (pss_one (ps_ret (pv 4)))))), ?_⟩)
  · intro l d h
    obtain ⟨ls, first, many, rfl, h1, h2, h3, rfl⟩ := h
    rfl
  · intro l d h
    obtain ⟨ls, first, many, rfl, h1, h2, h3, rfl⟩ := h
    refine sd_seq (sd_set (ev_lst (ea_cons (ev_strS [97]) (ea_cons (ev_strS [60]) (ea_cons (ev_strS [98]) (ea_cons (ev_strS [62]) (ea_cons (ev_strS [60, 98, 32]) (ea_cons (ev_strS [32, 99, 61]) (ea_cons (ev_strS [61]) (ea_cons (ev_strS [34]) (ea_cons (ev_strS [39]) (ea_cons (ev_strS [60, 33, 45, 45]) (ea_cons (ev_strS [45]) (ea_cons (ev_strS [45, 45]) (ea_cons (ev_strS [45, 62]) (ea_cons (ev_strS [45, 45, 62]) (ea_cons (ev_strS [38]) (ea_cons (ev_strS [38, 108]) (ea_cons (ev_strS [116, 59]) (ea_cons (ev_strS [38, 35]) (ea_nil))))))))))))))))))))) (sd_seq (sd_set (ev_op (ev_var rfl) (ev_lst (ea_cons (ev_strS [49]) (ea_cons (ev_strS [48, 59]) (ea_cons (ev_strS [59]) (ea_cons (ev_strS [47]) (ea_cons (ev_strS [60, 47]) (ea_cons (ev_strS [60, 115, 99, 114, 105, 112, 116, 62]) (ea_cons (ev_strS [60, 47, 115, 99, 114, 105, 112, 116]) (ea_cons (ev_strS [60, 115, 116, 121, 108, 101, 32]) (ea_cons (ev_strS [32]) (ea_cons (ev_strS [10]) (ea_cons (ev_strS [33]) (ea_cons (ev_strS [120, 62]) (ea_cons (ev_strS [60, 105, 32, 116, 61, 39]) (ea_cons (ev_strS [38, 97, 109]) (ea_nil)))))))))))))))) (rv_cat (by decide)))) (sd_seq (sd_set (ev_strS [])) ?_))
    refine sd_seq (sd_foldq (List.range many.toNat) (fun (k : Nat) => PyData.int (k : Int)) (fun j => [some (intsD ls), some (.int first), some (.int many), some (.list (MENU.map pS)), some (pS (rowM ls first j)), none]) (fun j k => [some (intsD ls), some (.int first), some (.int many), some (.list (MENU.map pS)), some (pS (rowM ls first j)), some (.int (k : Int))]) (fun j => none)
      (src_rng (ea_cons (ev_var rfl) (ea_nil)) h2 (by omega)) (Wk.refl _) rfl (fun _ _ _ z => nomatch z) (fun j k => tgt_name) (fun j k hjk => ?_)) ?_
    · have ek : k = j := by
        have z := List.getElem?_eq_some_iff.mp hjk
        obtain ⟨z1, z2⟩ := z
        rw [List.getElem_range] at z2
        exact z2.symm
      subst ek
      have hkb : k < many.toNat := by
        have z := (List.getElem?_eq_some_iff.mp hjk).1
        rwa [List.length_range] at z
      have hr := atM_range (ls := ls) (k := first + (k : Int)) (many := 32) (by decide)
      have ht := texts_at (texts := MENU) (n := (atM ls (first + (k : Int)) 32).toNat) (by show _ < 32; omega)
      have ec : (((atM ls (first + (k : Int)) 32).toNat : Nat) : Int) = atM ls (first + (k : Int)) 32 := by omega
      rw [ec] at ht
      have hl := rowM_len ls first k
      have hm := MENU_len (atM ls (first + (k : Int)) 32).toNat
      rw [rowM_succ]
      exact sd_weak (sd_set (ev_op (ev_var rfl) (ev_op (ev_var rfl) (ev_call (ea_cons (ev_var rfl) (ea_cons (ev_op (ev_var rfl) (ev_var rfl) rv_addI) (ea_cons (ev_int) (ea_nil)))) ⟨ls, _, 32, rfl, by omega, by decide, rfl⟩) (rv_ixL ht)) (rv_catS (by omega)))) (.same _ (.same _ (.same _ (.same _ (.same _ (.any _ .nil))))))
    · rw [List.length_range]
      exact sd_ret (ev_var rfl)

theorem sc_law : FnScope ["_law_script", "_law_draws_here", "_law_front", "_law_back", "_law_row_here", "_law_state", "_law_whole", "_law_tokens", "_law_need", "_law_text", "_law_lacking", "_law_due", "_law_char", "_law_pair"] ["_law_script"] (defScope s_law) := ⟨rfl, rfl, rfl, by decide +kernel, rfl, by decide +kernel, by decide +kernel⟩
theorem ok_law (T : Fx K w mg) (c__law_draws : C8.Cal P w K mg base 1 "_law_draws" (spDraws K) [])
    (c__law_at : CalR P w K mg base 1 "_law_at" R__law_at)
    (c__law_row : CalR P w K mg base 2 "_law_row" R__law_row)
    (c_state_after : CalR P w K mg base 17 "state_after" R_state_after)
    (c_is_admissible : CalR P w K mg base 2 "is_admissible" R_is_admissible)
    (c_needs : CalR P w K mg base 4 "needs" R_needs)
    (c_coding : CalR P w K mg base 3 "coding" R_coding)
    (c_read_row : CalR P w K mg base 18 "read_row" R_read_row)
    (c_trial : CalR P w K mg base 9 "trial" R_trial)
    (c_is_smaller : CalR P w K mg base 2 "is_smaller" R_is_smaller)
    (c_fill : CalR P w K mg base 4 "fill" R_fill)
    (c_read : CalR P w K mg base 17 "read" R_read)
    (c_coded : CalR P w K mg base 2 "coded" R_coded) : ∃ fd, FnOk P w K mg base CX0 19 (He.ga K "law") fd ["_law_script"] (spLaw K) ∧ mg "law" = some (.ref (He.ga K "law")) ∧ FunD K "law" "law" (defArgs s_law) (defBody s_law) (defScope s_law) [] [] (He.ga K "law") fd := by
  obtain ⟨fd, F, hm⟩ := T.f_law
  refine ⟨fd, ?_, hm, F⟩
  refine F.ok sc_law (fun vs H Q E h => ?_) (fun cdv A outer s0 H vs Q E hr h => ?_)
  · obtain ⟨a, ns, rfl, _⟩ := h
    rfl
  · obtain ⟨a, ns, rfl, hS, hlen, hQ⟩ := h
    refine ⟨_, PSs.nox (pss_cons (ps_set (i := 1) sc_law.nd rfl (.inl rfl) (C8.pe_c c__law_draws hr (by omega) rfl (pa_cons (pv 0) (pa_nil))))
      (pss_cons (ps_set (i := 2) sc_law.nd rfl (.inl rfl) (C8.pe_c c__law_row hr (by omega) rfl (pa_cons (pv 1) (pa_cons (pe_int) (pa_cons (C8.pe_c c__law_at hr (by omega) rfl (pa_cons (pv 1) (pa_cons (pe_int) (pa_cons (pe_int) (pa_nil))))) (pa_nil))))))
      (pss_cons (ps_set (i := 3) sc_law.nd rfl (.inl rfl) (C8.pe_c c__law_row hr (by omega) rfl (pa_cons (pv 1) (pa_cons (pe_int) (pa_cons (C8.pe_c c__law_at hr (by omega) rfl (pa_cons (pv 1) (pa_cons (pe_int) (pa_cons (pe_int) (pa_nil))))) (pa_nil))))))
      (pss_cons (ps_setLc (i := 4) rfl sc_law.nd rfl rfl (sw_true rfl rfl rfl (by decide +kernel)) (pi_str (pv 2)) (blkOk_by (own := [("_law_char", 12)]) (N := ["_law_script", "_law_draws_here", "_law_front", "_law_back", "_law_row_here", "_law_state", "_law_whole", "_law_tokens", "_law_need", "_law_text", "_law_lacking", "_law_due", "_law_char", "_law_pair"]) (sc := defScope s_law) (by decide +kernel)) (fun _ _ _ _ _ => pg_name (i := 12) sc_law.nd rfl (.inl rfl)) (fun _ _ _ _ _ => pts_nil) (fun _ _ _ _ _ => pv 12))
      (pss_cons (ps_set (i := 5) sc_law.nd rfl (.inl rfl) (C8.pe_c c_state_after hr (by omega) rfl (pa_cons (pv 4) (pa_nil))))
      (pss_cons (ps_if (pt_not (pt_val (C8.pe_c c_is_admissible hr (by omega) rfl (pa_cons (pe_str) (pa_cons (pv 5) (pa_nil)))))) (pss_one (ps_ret (pe_cmpR (op_eqD hr.units) (C8.pe_c c_needs hr (by omega) rfl (pa_cons (pv 5) (pa_nil))) (pe_lst pa_nil) (by first | exact nomark _ | rfl)))) pss_nil)
      (pss_cons (ps_set (i := 6) sc_law.nd rfl (.inl rfl) (C8.pe_c c_coding hr (by omega) rfl (pa_cons (pe_str) (pa_cons (pv 5) (pa_nil)))))
      (pss_cons (ps_set (i := 7) sc_law.nd rfl (.inl rfl) (C8.pe_c c_read_row hr (by omega) rfl (pa_cons (pe_op op_cat (pe_op op_cat (pv 4) (pe_lst (pa_cons (pe_int) (pa_nil)))) (pe_lc rfl sc_law.nd (pi_str (pv 3)) (blkOk_by (own := [("_law_char", 12)]) (N := ["_law_script", "_law_draws_here", "_law_front", "_law_back", "_law_row_here", "_law_state", "_law_whole", "_law_tokens", "_law_need", "_law_text", "_law_lacking", "_law_due", "_law_char", "_law_pair"]) (sc := defScope s_law) (by decide +kernel)) (fun _ _ _ _ _ => pg_name (i := 12) sc_law.nd rfl (.inl rfl)) (fun _ _ _ _ _ => pts_nil) (fun _ _ _ _ _ => pv 12))) (pa_nil))))
      (pss_cons (ps_for PassesOwn.never rfl (pi_listK (K := K) rfl (C8.pe_c c_needs hr (by omega) rfl (pa_cons (pv 5) (pa_nil)))) (pg_name (i := 8) sc_law.nd rfl (.inr rfl))
       (pss_cons (ps_set (i := 9) sc_law.nd rfl (.inl rfl) (C8.pe_c c_trial hr (by omega) rfl (pa_cons (pv 5) (pa_cons (pv 8) (pa_nil)))))
        (pss_cons (ps_set (i := 10) sc_law.nd rfl (.inl rfl) (pe_tup (pa_cons (pe_str) (pa_cons (pe_callTy call_list_of (by rfl) T.b_list (by decide +kernel) (pa_cons (pe_ix (ix_tupK (K := K) rfl) (pv 6) (pe_int) (fun _ _ => rfl)) pa_nil)) (pa_nil)))))
        (pss_cons (ps_if (pt_cmpR op_ne (pv 8) (pe_str) (by first | exact nomark _ | rfl))
         (pss_one (ps_set (i := 10) sc_law.nd rfl (.inl rfl) (pe_tup (pa_cons (pe_ix (ix_tupK (K := K) rfl) (pv 6) (pe_int) (fun _ _ => rfl)) (pa_cons (pe_lc rfl sc_law.nd (pi_listK (K := K) rfl (pe_ix (ix_tupK (K := K) rfl) (pv 6) (pe_int) (fun _ _ => rfl))) (blkOk_by (own := [("_law_pair", 13)]) (N := ["_law_script", "_law_draws_here", "_law_front", "_law_back", "_law_row_here", "_law_state", "_law_whole", "_law_tokens", "_law_need", "_law_text", "_law_lacking", "_law_due", "_law_char", "_law_pair"]) (sc := defScope s_law) (by decide +kernel)) (fun _ _ _ _ _ => pg_name (i := 13) sc_law.nd rfl (.inl rfl)) (fun _ _ _ _ _ => pts_one (pt_cmpR op_ne (pe_ix (ix_tupK (K := K) rfl) (pv 13) (pe_int) (fun _ _ => rfl)) (pv 8) (by first | exact nomark _ | rfl))) (fun _ _ _ _ _ => pv 13)) (pa_nil))))))
         (pss_nil))
        (pss_cons (ps_if (PW.pt (pw_or (pt_cmpR op_notBl (C8.pe_c c_is_smaller hr (by omega) rfl (pa_cons (pv 10) (pa_cons (pv 6) (pa_nil)))) (pe_bl) (by first | exact nomark _ | rfl)) (pw_or1 (pt_cmpR op_notBl (C8.pe_c c_is_smaller hr (by omega) rfl (pa_cons (pv 6) (pa_cons (pv 10) (pa_nil)))) (pe_bl) (by first | exact nomark _ | rfl)))))
         (pss_one (ps_ret (pe_bl)))
         (pss_nil))
        (pss_cons (ps_set (i := 11) sc_law.nd rfl (.inl rfl) (C8.pe_c c_fill hr (by omega) rfl (pa_cons (pv 7) (pa_cons (pe_lst (pa_cons (pv 9) (pa_nil))) (pa_nil)))))
        (pss_one (ps_if (PW.pt (pw_or (pt_cmpR (op_eqD hr.units) (C8.pe_c c_read hr (by omega) rfl (pa_cons (pe_op op_add_str (pe_op op_add_str (pv 2) (C8.pe_c c_coded hr (by omega) rfl (pa_cons (pv 10) (pa_cons (pv 9) (pa_nil))))) (pv 3)) (pa_nil))) (pv 11) (by first | exact nomark _ | rfl)) (pw_or1 (pt_cmpR (op_neD hr.units) (C8.pe_c c_read hr (by omega) rfl (pa_cons (pe_op op_add_str (pe_op op_add_str (pv 2) (C8.pe_c c_coded hr (by omega) rfl (pa_cons (pv 6) (pa_cons (pv 9) (pa_nil))))) (pv 3)) (pa_nil))) (pv 11) (by first | exact nomark _ | rfl)))))
         (pss_one (ps_ret (pe_bl)))
         (pss_nil)))))))))
      (pss_one (ps_ret (pe_bl)))))))))))), ?_⟩
    refine law_start hS hlen (fun ls hpos => ?_) (fun v H' e => by rw [e]; exact hQ H')
    have a0 := atM_range (ls := ls) (k := 0) (many := 7) (by decide)
    have a1 := atM_range (ls := ls) (k := 1) (many := 7) (by decide)
    refine sd_seq (sd_set (ev_call (ea_cons (ev_var rfl) (ea_cons (ev_int) (ea_cons (ev_call (ea_cons (ev_var rfl) (ea_cons (ev_int) (ea_cons (ev_int) (ea_nil)))) ⟨ls, 0, 7, rfl, by decide, by decide, rfl⟩) (ea_nil)))) ⟨ls, 2, atM ls 0 7, rfl, by decide, a0.1, by omega, rfl⟩)) ?_
    refine sd_seq (sd_set (ev_call (ea_cons (ev_var rfl) (ea_cons (ev_int) (ea_cons (ev_call (ea_cons (ev_var rfl) (ea_cons (ev_int) (ea_cons (ev_int) (ea_nil)))) ⟨ls, 1, 7, rfl, by decide, by decide, rfl⟩) (ea_nil)))) ⟨ls, 9, atM ls 1 7, rfl, by decide, a1.1, by omega, rfl⟩)) ?_
    have hFl := rowM_len ls 2 (atM ls 0 7).toNat
    have hBl := rowM_len ls 9 (atM ls 1 7).toNat
    have hFo := rowM_ok ls 2 (atM ls 0 7).toNat
    have hBo := rowM_ok ls 9 (atM ls 1 7).toNat
    have hFl : (rowM ls 2 (atM ls 0 7).toNat).length ≤ 48 := by omega
    have hBl : (rowM ls 9 (atM ls 1 7).toNat).length ≤ 48 := by omega
    generalize rowM ls 2 (atM ls 0 7).toNat = F at hFl hFo ⊢
    generalize rowM ls 9 (atM ls 1 7).toNat = B at hBl hBo ⊢
    refine sd_seq (sd_set (ev_lcS (fun c => pS [c]) (ev_var rfl) (by omega) (fun c _ => ev_var rfl))) ?_
    refine sd_seq (sd_set (ev_call (ea_cons (ev_var rfl) (ea_nil)) ⟨itms F, by rw [itD_map], by rw [itms_len]; omega, rfl⟩)) ?_
    generalize hs : (runR start (itms F)).1 = s
    have g : Good s := by rw [← hs]; exact run_good (itms F) start_good
    refine sd_ifq (et_not (et_B (ev_call (ea_cons (ev_strS TEXT) (ea_cons (ev_var rfl) (ea_nil))) ⟨s, rfl, rfl⟩))) (fun h0 => ?_) (fun h0 => ?_)
    · have ho : isOpen s = false := by simpa using h0
      have en : needL s = [] := by unfold needL; rw [ho]; rfl
      exact sd_seqR (sd_is (sd_ret (ev_op (ev_call (d := .list []) (ea_cons (ev_var rfl) (ea_nil)) ⟨s, rfl, by rw [en]; rfl⟩) (ev_lst (ea_nil)) (rv_eqDa (by decide) (by decide)))) (by congr 1))
    · have ho : isOpen s = true := by simpa using h0
      refine sd_nextq (sd_seq (sd_set (ev_call (ea_cons (ev_strS TEXT) (ea_cons (ev_var rfl) (ea_nil))) ⟨s, rfl, ho, rfl⟩)) ?_)
      have hrl : (itms F ++ [Itm.mk 0] ++ itms B).length ≤ 400 := by
        rw [List.length_append, List.length_append, itms_len, itms_len]; simp; omega
      have hr0 : Row0 (itms F ++ [Itm.mk 0] ++ itms B) := fun n hn => by
        rcases List.mem_append.mp hn with z | z
        · rcases List.mem_append.mp z with z | z
          · exact row0_ch F n z
          · have := List.mem_singleton.mp z; injection this
        · exact row0_ch B n z
      have hok := ev_ok hrl hr0
      refine sd_seq (sd_set (ev_call (ea_cons (ev_op (ev_op (ev_var rfl) (ev_lst (ea_cons (ev_int) (ea_nil))) (rv_cat (by rw [List.length_map]; simp; omega))) (ev_lcS (fun c => pS [c]) (ev_var rfl) (by omega) (fun c _ => ev_var rfl)) (rv_cat (by simp; omega))) (ea_nil)) ⟨itms F ++ [Itm.mk 0] ++ itms B, by rw [List.map_append, List.map_append, itD_map, itD_map]; rfl, hrl, hr0, rfl⟩)) ?_
      refine sd_seq (sd_foldq (needL s) needD (fun j => [none, some (intsD ls), some (pS F), some (pS B), some (.list (F.map fun c => pS [c])), some s.d, some (codD (codeO s)), some (.list ((mkToks (evR start (itms F ++ [Itm.mk 0] ++ itms B))).map MTok.d)), none, none, none, none, none, none])
        (fun j n => [none, some (intsD ls), some (pS F), some (pS B), some (.list (F.map fun c => pS [c])), some s.d, some (codD (codeO s)), some (.list ((mkToks (evR start (itms F ++ [Itm.mk 0] ++ itms B))).map MTok.d)), some (needD n), none, none, none, none, none]) (fun j => none)
        (src_lst (ev_call (ea_cons (ev_var rfl) (ea_nil)) ⟨s, rfl, rfl⟩)) (Wk.refl _) rfl (fun _ _ _ z => nomatch z) (fun j n => tgt_name) (fun j n hjn => ?_)) (sd_ret ev_bl)
      have hn := List.mem_of_getElem? hjn
      have ht := trial_ne g hn
      have hsm := small_ok hn
      have hlk := lack_ne (B := B) hs g hn
      have hdue := due_whole (B := B) hs g ho ht.1
      have hpd : s.pd.length ≤ 1000 := by have := g.sok.pd; omega
      refine sd_seq (sd_set (ev_call (ea_cons (ev_var rfl) (ea_cons (ev_var rfl) (ea_nil))) ⟨s, n, rfl, hn, hpd, trial_comp g hn, rfl⟩)) ?_
      have htc : ∀ c ∈ trialT s n, c < 1114112 := trial_ok g hn
      have hcl := (lackOf6 s n).len ht.2
      have hcw := (codeO6 s).len ht.2
      have okL := page_ok hFo (code_ok (lackOf6o s n) htc) hBo
      have okW := page_ok hFo (code_ok (codeO6o s) htc) hBo
      generalize trialT s n = X at ht hlk hdue htc hcl hcw okL okW ⊢
      refine sd_seq (sd_set (ev_tup (ea_cons (ev_strS []) (ea_cons (ev_listL (ev_op (ev_var rfl) (ev_int) (rv_ixT rfl))) (ea_nil))))) ?_
      refine sd_seq (es := [none, some (intsD ls), some (pS F), some (pS B), some (.list (F.map fun c => pS [c])), some s.d, some (codD (codeO s)), some (.list ((mkToks (evR start (itms F ++ [Itm.mk 0] ++ itms B))).map MTok.d)), some (needD n), some (pS X), some (codD (lackOf s n)), none, none, none]) (acc' := none) ?_ ?_
      · cases n with
        | none => exact sd_ifF (evt_is (et_test (ev_op (ev_var rfl) (ev_strS []) rv_neT)) rfl) sd_next
        | some c =>
          refine sd_ifT (evt_is (et_test (ev_op (ev_var rfl) (ev_strS []) rv_neT)) (by simp [needT])) ?_
          refine sd_is (sd_set (ev_tup (ea_cons (ev_op (ev_var rfl) (ev_int) (rv_ixT rfl)) (ea_cons (ev_lcF (codeO s).2 (fun q => PyData.tuple [pS [q.1], pS q.2]) (fun q => !decide ([q.1] = [c])) (fun q => PyData.tuple [pS [q.1], pS q.2]) _ (src_lst (ev_op (ev_var rfl) (ev_int) (rv_ixT rfl))) (by have := (codeO6 s).n; omega) (by decide) (fun p _ q _ e => by rw [codP_inj e]; exact ⟨rfl, rfl⟩) (fun q hq => ⟨tgt_name, et_test (ev_op (ev_op (ev_var rfl) (ev_int) (rv_ixT rfl)) (ev_var rfl) rv_neT), fun _ => ev_var rfl⟩)) (ea_nil))))) ?_
          have ef : ((codeO s).2.filter fun q => !decide ([q.1] = [c])) = (codeO s).2.filter fun q => decide (q.1 ≠ c) := by
            congr 1
            funext q
            by_cases h : q.1 = c <;> simp [h]
          rw [ef]
          rfl
      · refine sd_ifq (et_or (et_test (ev_op (ev_call (ea_cons (ev_var rfl) (ea_cons (ev_var rfl) (ea_nil))) ⟨lackOf s n, codeO s, rfl, (lackOf6 s n).ok, (codeO6 s).ok, rfl⟩) (ev_bl) rv_notBl)) (fun hq => et_test (ev_op (ev_call (ea_cons (ev_var rfl) (ea_cons (ev_var rfl) (ea_nil))) ⟨codeO s, lackOf s n, rfl, (codeO6 s).ok, (lackOf6 s n).ok, rfl⟩) (ev_bl) rv_notBl))) (fun h1 => ?_) (fun h1 => ?_)
        · rw [hsm.1, hsm.2] at h1
          exact absurd h1 (by decide)
        · have hjt := jt_of (texts := [X]) (fun n => by
            cases n with
            | zero => show X.length ≤ 100; omega
            | succ n => simp) (es := evR start (itms F ++ [Itm.mk 0] ++ itms B)) (fun e he => ⟨hok.it e he, fun n z => by
              have y := hok.it e he
              rw [z] at y
              have y : n = 0 := y
              rw [y]; exact Nat.zero_lt_one⟩) hok.len
          refine sd_nextq (sd_seq (sd_set (ev_call (d := toksD (readP (F ++ coded (codeO s) X ++ B))) (ea_cons (ev_var rfl) (ea_cons (ev_lst (ea_cons (ev_var rfl) (ea_nil))) (ea_nil))) ⟨_, [X], rfl, hjt.1, hjt.2, items_len hok.len, by rw [hdue]; rfl⟩)) ?_)
          have cl1 : (F ++ coded (lackOf s n) X ++ B).length ≤ 400 := by rw [List.length_append, List.length_append]; omega
          have cl2 : (F ++ coded (codeO s) X ++ B).length ≤ 400 := by rw [List.length_append, List.length_append]; omega
          refine sd_if (et_or (et_test (ev_op (ev_call (d := toksD (readP (F ++ coded (lackOf s n) X ++ B))) (ea_cons (ev_op (ev_op (ev_var rfl) (ev_call (ea_cons (ev_var rfl) (ea_cons (ev_var rfl) (ea_nil))) ⟨lackOf s n, X, rfl, (lackOf6 s n).ok, by omega, rfl⟩) (rv_catS (by omega))) (ev_var rfl) (rv_catS (by rw [List.length_append]; omega))) (ea_nil)) ⟨_, rfl, cl1, rfl⟩) (ev_var rfl) (rv_eqT2 (ok_read okL) (ok_read okW))))
            (fun hq => et_test (ev_op (ev_call (d := toksD (readP (F ++ coded (codeO s) X ++ B))) (ea_cons (ev_op (ev_op (ev_var rfl) (ev_call (ea_cons (ev_var rfl) (ea_cons (ev_var rfl) (ea_nil))) ⟨codeO s, X, rfl, (codeO6 s).ok, by omega, rfl⟩) (rv_catS (by omega))) (ev_var rfl) (rv_catS (by rw [List.length_append]; omega))) (ea_nil)) ⟨_, rfl, cl2, rfl⟩) (ev_var rfl) (rv_neT2 (ok_read okW) (ok_read okW))))) (fun h2 => ?_) (fun h2 => ?_)
          · rw [decide_eq_false hlk, decide_eq_true rfl] at h2
            cases h2
          · exact sd_weak sd_next (.same _ (.same _ (.same _ (.same _ (.same _ (.same _ (.same _ (.same _ (.any _ (.any _ (.any _ (.any _ (.same _ (.same _ .nil))))))))))))))

end
end K49

set_option Elab.async false
set_option linter.all false
set_option maxRecDepth 100000
/-! K49Lc: all defs together. -/
namespace K49
open PySem L2
theorem law_all {P : Program} {w : World} {K : PySem.W.Frag} {mg : Str → Option Value} {base : Heap} (T : Fx K w mg) : ∃ fd, FnOk P w K mg base CX0 19 (He.ga K "law") fd ["_law_script"] (spLaw K) ∧ mg "law" = some (.ref (He.ga K "law")) ∧ FunD K "law" "law" (defArgs s_law) (defBody s_law) (defScope s_law) [] [] (He.ga K "law") fd := by
  have cN : CalR P w K mg base 1 "is_number" R_is_number := cal_is_number T
  have cC : CalR P w K mg base 1 "character_of" R_character_of := cal_character_of T
  have cR : CalR P w K mg base 2 "reference_text" R_reference_text := cal_reference_text T cN cC
  have l0 : CalR P w K mg base 1 "leads_on" (R_leads_on 0) := cal_mono (cal_imp (cal_none T.f_leads_on (ps := ["digits"]) (fun _ _ _ _ _ _ us hl => match us, hl with | [_], _ => rfl)) (fun l d ⟨_, _, _, _, z, _⟩ => absurd z (by decide))) (by decide)
  have l1 : CalR P w K mg base 2 "leads_on" (R_leads_on 1) := cal_leads_on T cN cC l0
  have l2 : CalR P w K mg base 3 "leads_on" (R_leads_on 2) := cal_leads_on T cN cC l1
  have l3 : CalR P w K mg base 4 "leads_on" (R_leads_on 3) := cal_leads_on T cN cC l2
  have l4 : CalR P w K mg base 5 "leads_on" (R_leads_on 4) := cal_leads_on T cN cC l3
  have l5 : CalR P w K mg base 6 "leads_on" (R_leads_on 5) := cal_leads_on T cN cC l4
  have cB : CalR P w K mg base 7 "is_beginning" R_is_beginning := cal_is_beginning T l5
  have cS : CalR P w K mg base 15 "step" (R_step true) := the_step T
  have cP : CalM P w K mg base 1 "pending_events" M_pending_events := cal_pending_events T
  have cF : CalR P w K mg base 2 "finish" R_finish := cal_finish T cP
  have cM : CalR P w K mg base 2 "mark_step" R_mark_step := cal_mark_step T (cal_settled T) (cal_pend T)
  have cI : CalR P w K mg base 16 "item_step" R_item_step := cal_item_step T cS cM
  have cME : CalR P w K mg base 17 "marked_events" R_marked_events := cal_marked_events T cI cF
  have cE : CalR P w K mg base 16 "events" R_events := cal_events T cS cF
  have cSA : CalR P w K mg base 17 "state_after" R_state_after := cal_state_after T cI
  have cPo : CalR P w K mg base 1 "pieces_of" R_pieces_of := cal_pieces_of T
  have cJ : CalR P w K mg base 1 "joined" R_joined := cal_joined T
  have cMP : CalR P w K mg base 2 "marked_pair" R_marked_pair := cal_marked_pair T cPo
  have cFP : CalR P w K mg base 2 "filled_pair" R_filled_pair := cal_filled_pair T cJ
  have cFT : CalR P w K mg base 3 "filled_tokens" R_filled_tokens := cal_filled_tokens T cJ cFP
  have cTP : CalR P w K mg base 1 "token_pieces" R_token_pieces := cal_token_pieces T
  have cMO : CalR P w K mg base 2 "marks_of" R_marks_of := cal_marks_of T cTP
  have cFi : CalR P w K mg base 4 "fill" R_fill := cal_fill T cMO cFT
  have cMT : CalR P w K mg base 3 "marked_tokens" R_mt := cal_marked_tokens T cPo cMP
  have cRd : CalR P w K mg base 17 "read" R_read := cal_read T cE cMT cFT
  have cRR : CalR P w K mg base 18 "read_row" R_read_row := cal_read_row T cME cMT
  have cO : CalR P w K mg base 1 "is_open" R_is_open := cal_is_open T
  have cA : CalR P w K mg base 2 "is_admissible" R_is_admissible := cal_is_admissible T cO
  have cL : CalR P w K mg base 1 "least_reference" R_least_reference := cal_least_reference T
  have cCo : CalR P w K mg base 3 "coding" R_coding := cal_coding T cA cL
  have cIm : CalR P w K mg base 1 "image_of" R_image_of := cal_image_of T
  have cCd : CalR P w K mg base 2 "coded" R_coded := cal_coded T cIm
  have cSm : CalR P w K mg base 2 "is_smaller" R_is_smaller := cal_is_smaller T cIm
  have cNe : CalR P w K mg base 4 "needs" R_needs := cal_needs T cO cCo
  have cCp : CalR P w K mg base 8 "completion" R_completion := cal_completion T cR cB
  have cTr : CalR P w K mg base 9 "trial" R_trial := cal_trial T cNe cCp
  have cAt : CalR P w K mg base 1 "_law_at" R__law_at := cal__law_at T
  have cRw : CalR P w K mg base 2 "_law_row" R__law_row := cal__law_row T cAt
  exact ok_law T (cal__law_draws T) cAt cRw cSA cA cNe cCo cRR cTr cSm cFi cRd cCd
end K49

set_option Elab.async false
set_option linter.all false
set_option maxRecDepth 100000
set_option maxHeartbeats 0
/-! K49He: the head: the top's run, what it leaves, the law. -/
namespace K49
open PySem PySem.Spec PyProof.Rows L2
abbrev R : PySem.W.OpenRow := PySem.W.OpenLaw.row PySem.Challenge.rw_samepage_k49_whole_nothing_smaller_works
abbrev qv : Program := PySem.W.view R.prog [84]
def namesA : List PySem.Str := ([("SamepageError" : PySem.Str), ("MissingText" : PySem.Str), ("NotAdmissible" : PySem.Str), ("NoNeed" : PySem.Str), ("pieces_of" : PySem.Str), ("Builder" : PySem.Str), ("marked_pair" : PySem.Str), ("marked_tokens" : PySem.Str), ("joined" : PySem.Str), ("filled_pair" : PySem.Str), ("filled_tokens" : PySem.Str), ("OPEN_PLACES" : PySem.Str)] : List PySem.Str) ++ ([("token_pieces" : PySem.Str), ("marks_of" : PySem.Str), ("fill" : PySem.Str), ("is_open" : PySem.Str), ("NAMED" : PySem.Str), ("CHARACTERS" : PySem.Str), ("DIGITS" : PySem.Str), ("LETTERS" : PySem.Str), ("BLANKS" : PySem.Str), ("MOST_DIGITS" : PySem.Str), ("is_number" : PySem.Str), ("character_of" : PySem.Str)] : List PySem.Str) ++ ([("reference_text" : PySem.Str), ("leads_on" : PySem.Str), ("is_beginning" : PySem.Str), ("least_reference" : PySem.Str), ("EMPTY" : PySem.Str), ("IMAGES" : PySem.Str), ("is_admissible" : PySem.Str), ("coding" : PySem.Str), ("image_of" : PySem.Str), ("coded" : PySem.Str), ("is_smaller" : PySem.Str), ("STARTS" : PySem.Str)] : List PySem.Str)
def namesB : List PySem.Str := ([("SIGNS" : PySem.Str), ("needs" : PySem.Str), ("completion" : PySem.Str), ("trial" : PySem.Str), ("START" : PySem.Str), ("KINDS" : PySem.Str), ("QUOTES" : PySem.Str), ("RAW_ELEMENTS" : PySem.Str), ("NAME_CHARACTERS" : PySem.Str), ("pending_events" : PySem.Str), ("settled" : PySem.Str), ("read_again" : PySem.Str)] : List PySem.Str) ++ ([("settle_and_read" : PySem.Str), ("step_reference" : PySem.Str), ("step_text" : PySem.Str), ("longer_name" : PySem.Str), ("step_tag" : PySem.Str), ("step_gap" : PySem.Str), ("step_name" : PySem.Str), ("step_equals" : PySem.Str), ("step_value" : PySem.Str), ("step_comment" : PySem.Str), ("step_raw" : PySem.Str), ("STEPS" : PySem.Str)] : List PySem.Str) ++ ([("step" : PySem.Str), ("finish" : PySem.Str), ("mark_step" : PySem.Str), ("item_step" : PySem.Str), ("marked_events" : PySem.Str), ("state_after" : PySem.Str), ("read_row" : PySem.Str), ("events" : PySem.Str), ("read" : PySem.Str), ("_law_draws" : PySem.Str), ("_law_at" : PySem.Str), ("_law_is_integer" : PySem.Str)] : List PySem.Str) ++ ([("_law_is_row" : PySem.Str), ("_law_row" : PySem.Str)] : List PySem.Str)
def names : List PySem.Str := namesA ++ namesB


def fax0 : List He.Fa := [.glo "pieces_of", .glo "marked_pair", .glo "marked_tokens", .glo "joined", .glo "filled_pair", .glo "filled_tokens", .glo "token_pieces", .glo "marks_of", .glo "fill", .glo "is_open", .glo "is_number", .glo "character_of"]
def fax1 : List He.Fa := [.glo "reference_text", .glo "leads_on", .glo "is_beginning", .glo "least_reference", .glo "is_admissible", .glo "coding", .glo "image_of", .glo "coded", .glo "is_smaller", .glo "needs", .glo "completion", .glo "trial"]
def fax2 : List He.Fa := [.glo "pending_events", .glo "settled", .glo "read_again", .glo "settle_and_read", .glo "step_reference", .glo "step_text", .glo "longer_name", .glo "step_tag", .glo "step_gap", .glo "step_name", .glo "step_equals", .glo "step_value"]
def fax3 : List He.Fa := [.glo "step_comment", .glo "step_raw", .glo "step", .glo "finish", .glo "mark_step", .glo "item_step", .glo "marked_events", .glo "state_after", .glo "read_row", .glo "events", .glo "read", .glo "_law_draws"]
def fax4 : List He.Fa := [.glo "_law_at", .glo "_law_row", .glo "law", .glo "OPEN_PLACES", .glo "START", .glo "RAW_ELEMENTS", .glo "NAMED", .glo "IMAGES", .glo "STARTS", .glo "KINDS", .glo "QUOTES", .glo "STEPS"]
def fax5 : List He.Fa := [.glo "Builder", .free "abs", .free "int", .free "isinstance", .free "len", .free "list", .free "min", .free "ord", .free "range", .free "sorted", .free "str", .str "CHARACTERS" (SX.S CHRS)]
def fax6 : List He.Fa := [.str "DIGITS" (SX.S DIGS), .str "LETTERS" (SX.S LETT), .str "BLANKS" (SX.S BLNK), .str "EMPTY" (SX.S [38, 59]), .str "SIGNS" (SX.S SIGN), .str "NAME_CHARACTERS" (SX.S NAMC), .int "MOST_DIGITS" 3, .cls "Builder", .noat "Builder" "tokens", .noat "Builder" "target", .mkr "Builder", .meth "Builder" "begin"]
def fax7 : List He.Fa := [.meth "Builder" "attribute", .meth "Builder" "value", .meth "Builder" "take"]
def fax : List He.Fa := fax0 ++ (fax1 ++ (fax2 ++ (fax3 ++ (fax4 ++ (fax5 ++ (fax6 ++ (fax7)))))))
def fnx0 : List He.DefD := [⟨("pieces_of", none), "pieces_of", "pieces_of", defArgs s_pieces_of, defBody s_pieces_of, defScope s_pieces_of, [], []⟩, ⟨("marked_pair", none), "marked_pair", "marked_pair", defArgs s_marked_pair, defBody s_marked_pair, defScope s_marked_pair, [], []⟩, ⟨("marked_tokens", none), "marked_tokens", "marked_tokens", defArgs s_marked_tokens, defBody s_marked_tokens, defScope s_marked_tokens, [], []⟩, ⟨("joined", none), "joined", "joined", defArgs s_joined, defBody s_joined, defScope s_joined, [], []⟩, ⟨("filled_pair", none), "filled_pair", "filled_pair", defArgs s_filled_pair, defBody s_filled_pair, defScope s_filled_pair, [], []⟩, ⟨("filled_tokens", none), "filled_tokens", "filled_tokens", defArgs s_filled_tokens, defBody s_filled_tokens, defScope s_filled_tokens, [], []⟩, ⟨("token_pieces", none), "token_pieces", "token_pieces", defArgs s_token_pieces, defBody s_token_pieces, defScope s_token_pieces, [], []⟩, ⟨("marks_of", none), "marks_of", "marks_of", defArgs s_marks_of, defBody s_marks_of, defScope s_marks_of, [], []⟩, ⟨("fill", none), "fill", "fill", defArgs s_fill, defBody s_fill, defScope s_fill, [], []⟩, ⟨("is_open", none), "is_open", "is_open", defArgs s_is_open, defBody s_is_open, defScope s_is_open, [], []⟩, ⟨("is_number", none), "is_number", "is_number", defArgs s_is_number, defBody s_is_number, defScope s_is_number, [], []⟩, ⟨("character_of", none), "character_of", "character_of", defArgs s_character_of, defBody s_character_of, defScope s_character_of, [], []⟩]
def fnx1 : List He.DefD := [⟨("reference_text", none), "reference_text", "reference_text", defArgs s_reference_text, defBody s_reference_text, defScope s_reference_text, [], []⟩, ⟨("leads_on", none), "leads_on", "leads_on", defArgs s_leads_on, defBody s_leads_on, defScope s_leads_on, [], []⟩, ⟨("is_beginning", none), "is_beginning", "is_beginning", defArgs s_is_beginning, defBody s_is_beginning, defScope s_is_beginning, [], []⟩, ⟨("least_reference", none), "least_reference", "least_reference", defArgs s_least_reference, defBody s_least_reference, defScope s_least_reference, [], []⟩, ⟨("is_admissible", none), "is_admissible", "is_admissible", defArgs s_is_admissible, defBody s_is_admissible, defScope s_is_admissible, [], []⟩, ⟨("coding", none), "coding", "coding", defArgs s_coding, defBody s_coding, defScope s_coding, [], []⟩, ⟨("image_of", none), "image_of", "image_of", defArgs s_image_of, defBody s_image_of, defScope s_image_of, [], []⟩, ⟨("coded", none), "coded", "coded", defArgs s_coded, defBody s_coded, defScope s_coded, [], []⟩, ⟨("is_smaller", none), "is_smaller", "is_smaller", defArgs s_is_smaller, defBody s_is_smaller, defScope s_is_smaller, [], []⟩, ⟨("needs", none), "needs", "needs", defArgs s_needs, defBody s_needs, defScope s_needs, [], []⟩, ⟨("completion", none), "completion", "completion", defArgs s_completion, defBody s_completion, defScope s_completion, [], []⟩, ⟨("trial", none), "trial", "trial", defArgs s_trial, defBody s_trial, defScope s_trial, [], []⟩]
def fnx2 : List He.DefD := [⟨("pending_events", none), "pending_events", "pending_events", defArgs s_pending_events, defBody s_pending_events, defScope s_pending_events, [], []⟩, ⟨("settled", none), "settled", "settled", defArgs s_settled, defBody s_settled, defScope s_settled, [], []⟩, ⟨("read_again", none), "read_again", "read_again", defArgs s_read_again, defBody s_read_again, defScope s_read_again, [], []⟩, ⟨("settle_and_read", none), "settle_and_read", "settle_and_read", defArgs s_settle_and_read, defBody s_settle_and_read, defScope s_settle_and_read, [], []⟩, ⟨("step_reference", none), "step_reference", "step_reference", defArgs s_step_reference, defBody s_step_reference, defScope s_step_reference, [], []⟩, ⟨("step_text", none), "step_text", "step_text", defArgs s_step_text, defBody s_step_text, defScope s_step_text, [], []⟩, ⟨("longer_name", none), "longer_name", "longer_name", defArgs s_longer_name, defBody s_longer_name, defScope s_longer_name, [], []⟩, ⟨("step_tag", none), "step_tag", "step_tag", defArgs s_step_tag, defBody s_step_tag, defScope s_step_tag, [], []⟩, ⟨("step_gap", none), "step_gap", "step_gap", defArgs s_step_gap, defBody s_step_gap, defScope s_step_gap, [], []⟩, ⟨("step_name", none), "step_name", "step_name", defArgs s_step_name, defBody s_step_name, defScope s_step_name, [], []⟩, ⟨("step_equals", none), "step_equals", "step_equals", defArgs s_step_equals, defBody s_step_equals, defScope s_step_equals, [], []⟩, ⟨("step_value", none), "step_value", "step_value", defArgs s_step_value, defBody s_step_value, defScope s_step_value, [], []⟩]
def fnx3 : List He.DefD := [⟨("step_comment", none), "step_comment", "step_comment", defArgs s_step_comment, defBody s_step_comment, defScope s_step_comment, [], []⟩, ⟨("step_raw", none), "step_raw", "step_raw", defArgs s_step_raw, defBody s_step_raw, defScope s_step_raw, [], []⟩, ⟨("step", none), "step", "step", defArgs s_step, defBody s_step, defScope s_step, [], []⟩, ⟨("finish", none), "finish", "finish", defArgs s_finish, defBody s_finish, defScope s_finish, [], []⟩, ⟨("mark_step", none), "mark_step", "mark_step", defArgs s_mark_step, defBody s_mark_step, defScope s_mark_step, [], []⟩, ⟨("item_step", none), "item_step", "item_step", defArgs s_item_step, defBody s_item_step, defScope s_item_step, [], []⟩, ⟨("marked_events", none), "marked_events", "marked_events", defArgs s_marked_events, defBody s_marked_events, defScope s_marked_events, [], []⟩, ⟨("state_after", none), "state_after", "state_after", defArgs s_state_after, defBody s_state_after, defScope s_state_after, [], []⟩, ⟨("read_row", none), "read_row", "read_row", defArgs s_read_row, defBody s_read_row, defScope s_read_row, [], []⟩, ⟨("events", none), "events", "events", defArgs s_events, defBody s_events, defScope s_events, [], []⟩, ⟨("read", none), "read", "read", defArgs s_read, defBody s_read, defScope s_read, [], []⟩, ⟨("_law_draws", none), "_law_draws", "_law_draws", defArgs s__law_draws, defBody s__law_draws, defScope s__law_draws, [], []⟩]
def fnx4 : List He.DefD := [⟨("_law_at", none), "_law_at", "_law_at", defArgs s__law_at, defBody s__law_at, defScope s__law_at, [], []⟩, ⟨("_law_row", none), "_law_row", "_law_row", defArgs s__law_row, defBody s__law_row, defScope s__law_row, [], []⟩, ⟨("law", none), "law", "law", defArgs s_law, defBody s_law, defScope s_law, [], []⟩, ⟨("Builder", some "__init__"), "__init__", "Builder.__init__", defArgs s_Builder___init__, defBody s_Builder___init__, defScope s_Builder___init__, [], []⟩, ⟨("Builder", some "begin"), "begin", "Builder.begin", defArgs s_Builder_begin, defBody s_Builder_begin, defScope s_Builder_begin, [], []⟩, ⟨("Builder", some "attribute"), "attribute", "Builder.attribute", defArgs s_Builder_attribute, defBody s_Builder_attribute, defScope s_Builder_attribute, [], []⟩, ⟨("Builder", some "value"), "value", "Builder.value", defArgs s_Builder_value, defBody s_Builder_value, defScope s_Builder_value, [], []⟩, ⟨("Builder", some "take"), "take", "Builder.take", defArgs s_Builder_take, defBody s_Builder_take, defScope s_Builder_take, [], []⟩]
def fnx : List He.DefD := fnx0 ++ (fnx1 ++ (fnx2 ++ (fnx3 ++ (fnx4))))
def kS (l : List (Tx × Tx)) : List (Str × He.Dv) := l.map fun q => (SX.S q.1, .str (SX.S q.2))
def kR (l : List (Tx × String)) : List (Str × He.Dv) := l.map fun q => (SX.S q.1, .glo (Str.ofString q.2))
def tS (l : List Tx) : List He.Dv := l.map fun q => .str (SX.S q)
def tsx : List He.Tab := [(fun K => He.ga K "NAMED", (kS NAMD).map (·.1)), (fun K => He.ga K "IMAGES", (kS IMGL).map (·.1)), (fun K => He.ga K "STARTS", (kS STAL).map (·.1)), (fun K => He.ga K "KINDS", (kS KNDL).map (·.1)), (fun K => He.ga K "QUOTES", (kS QUOL).map (·.1)), (fun K => He.ga K "STEPS", (kR STPL).map (·.1))]
def exB (K : PySem.W.Frag) : Bool := He.tupB K "OPEN_PLACES" (tS opens) && (He.tupB K "START" (tS startL) && (He.tupB K "RAW_ELEMENTS" (tS rawEls) && (kvB K (He.ga K "NAMED") (kS NAMD) && (kvB K (He.ga K "IMAGES") (kS IMGL) && (kvB K (He.ga K "STARTS") (kS STAL) && (kvB K (He.ga K "KINDS") (kS KNDL) && (kvB K (He.ga K "QUOTES") (kS QUOL) && (kvB K (He.ga K "STEPS") (kR STPL)))))))))
abbrev hk : PySem.W.Hook := He.hookX 4 fax fnx tsx [] exB
def ob (s : PySem.W.SharedT) : He.AlX := He.obsX 4 fax fnx tsx [] exB (HandSHeadRun.getT s)
theorem ob_eq (s : PySem.W.SharedT) : ob s = hk.obs s.abs := He.obsX_eq (HandSHeadRun.getT_eq s)
theorem runF (w : World) : HandSHeadRun.RunEq R qv hk ob 6000 names (w.withFollow "special-get-raises" false) := fun os => by kernel_rfl
theorem runT (w : World) : HandSHeadRun.RunEq R qv hk ob 6000 names (w.withFollow "special-get-raises" true) := fun os => by kernel_rfl
theorem run (w : World) : HandSHeadRun.RunEq R qv hk ob 6000 names w := PySem.W.byRow2 "special-get-raises" runF runT w
theorem fx_of {w : World} {K : PySem.W.Frag} {h : Heap} {mg : Str → Option Value} (X : K.In h) (G : h.Ns mainGlobals mg) (c : He.SaysX fax fnx tsx [] exB w h K) : Fx K w mg := by
  have e := c.more
  unfold exB at e
  obtain ⟨e0, e⟩ := Bool.and_eq_true_iff.mp e
  obtain ⟨e1, e⟩ := Bool.and_eq_true_iff.mp e
  obtain ⟨e2, e⟩ := Bool.and_eq_true_iff.mp e
  obtain ⟨e3, e⟩ := Bool.and_eq_true_iff.mp e
  obtain ⟨e4, e⟩ := Bool.and_eq_true_iff.mp e
  obtain ⟨e5, e⟩ := Bool.and_eq_true_iff.mp e
  obtain ⟨e6, e⟩ := Bool.and_eq_true_iff.mp e
  obtain ⟨e7, e⟩ := Bool.and_eq_true_iff.mp e
  have e8 := e
  exact {
    b_abs := He.free_ok X G (c.t.d.fact 61 rfl)
    b_int := He.free_ok X G (c.t.d.fact 62 rfl)
    b_isinstance := He.free_ok X G (c.t.d.fact 63 rfl)
    b_len := He.free_ok X G (c.t.d.fact 64 rfl)
    b_list := He.free_ok X G (c.t.d.fact 65 rfl)
    b_min := He.free_ok X G (c.t.d.fact 66 rfl)
    b_ord := He.free_ok X G (c.t.d.fact 67 rfl)
    b_range := He.free_ok X G (c.t.d.fact 68 rfl)
    b_sorted := He.free_ok X G (c.t.d.fact 69 rfl)
    b_str := He.free_ok X G (c.t.d.fact 70 rfl)
    s_CHARACTERS := (He.str_ok X G (c.t.d.fact 71 rfl)).elim fun t h => ⟨_, h, ⟨t, rfl⟩⟩
    s_DIGITS := (He.str_ok X G (c.t.d.fact 72 rfl)).elim fun t h => ⟨_, h, ⟨t, rfl⟩⟩
    s_LETTERS := (He.str_ok X G (c.t.d.fact 73 rfl)).elim fun t h => ⟨_, h, ⟨t, rfl⟩⟩
    s_BLANKS := (He.str_ok X G (c.t.d.fact 74 rfl)).elim fun t h => ⟨_, h, ⟨t, rfl⟩⟩
    s_EMPTY := (He.str_ok X G (c.t.d.fact 75 rfl)).elim fun t h => ⟨_, h, ⟨t, rfl⟩⟩
    s_SIGNS := (He.str_ok X G (c.t.d.fact 76 rfl)).elim fun t h => ⟨_, h, ⟨t, rfl⟩⟩
    s_NAME_CHARACTERS := (He.str_ok X G (c.t.d.fact 77 rfl)).elim fun t h => ⟨_, h, ⟨t, rfl⟩⟩
    i_MOST_DIGITS := (He.int_ok X G (c.t.d.fact 78 rfl)).elim fun t h => ⟨_, h, ⟨t, rfl⟩⟩
    g_OPEN_PLACES := ⟨_, He.glo_ok X G (c.t.d.fact 51 rfl), rfl⟩
    g_START := ⟨_, He.glo_ok X G (c.t.d.fact 52 rfl), rfl⟩
    g_RAW_ELEMENTS := ⟨_, He.glo_ok X G (c.t.d.fact 53 rfl), rfl⟩
    g_NAMED := ⟨_, He.glo_ok X G (c.t.d.fact 54 rfl), rfl⟩
    g_IMAGES := ⟨_, He.glo_ok X G (c.t.d.fact 55 rfl), rfl⟩
    g_STARTS := ⟨_, He.glo_ok X G (c.t.d.fact 56 rfl), rfl⟩
    g_KINDS := ⟨_, He.glo_ok X G (c.t.d.fact 57 rfl), rfl⟩
    g_QUOTES := ⟨_, He.glo_ok X G (c.t.d.fact 58 rfl), rfl⟩
    g_STEPS := ⟨_, He.glo_ok X G (c.t.d.fact 59 rfl), rfl⟩
    g_Builder := He.glo_ok X G (c.t.d.fact 60 rfl)
    t_OPEN_PLACES := fun H => by have z := He.tupB_ok e0 H; unfold tS at z; rw [List.map_map] at z; exact z
    t_START := fun H => by have z := He.tupB_ok e1 H; unfold tS at z; rw [List.map_map] at z; exact z
    t_RAW_ELEMENTS := fun H => by have z := He.tupB_ok e2 H; unfold tS at z; rw [List.map_map] at z; exact z
    d_NAMED := by have z := kvB_ok (w := w) e3 (c.t.tab 0 rfl); unfold kS at z; rw [List.map_map] at z; exact z
    d_IMAGES := by have z := kvB_ok (w := w) e4 (c.t.tab 1 rfl); unfold kS at z; rw [List.map_map] at z; exact z
    d_STARTS := by have z := kvB_ok (w := w) e5 (c.t.tab 2 rfl); unfold kS at z; rw [List.map_map] at z; exact z
    d_KINDS := by have z := kvB_ok (w := w) e6 (c.t.tab 3 rfl); unfold kS at z; rw [List.map_map] at z; exact z
    d_QUOTES := by have z := kvB_ok (w := w) e7 (c.t.tab 4 rfl); unfold kS at z; rw [List.map_map] at z; exact z
    d_STEPS := by have z := kvB_ok (w := w) e8 (c.t.tab 5 rfl); unfold kR at z; rw [List.map_map] at z; exact z
    f_pieces_of := (c.t.d.def_ 0 rfl).elim fun fd h => ⟨fd, h, He.glo_ok X G (c.t.d.fact 0 rfl)⟩
    f_marked_pair := (c.t.d.def_ 1 rfl).elim fun fd h => ⟨fd, h, He.glo_ok X G (c.t.d.fact 1 rfl)⟩
    f_marked_tokens := (c.t.d.def_ 2 rfl).elim fun fd h => ⟨fd, h, He.glo_ok X G (c.t.d.fact 2 rfl)⟩
    f_joined := (c.t.d.def_ 3 rfl).elim fun fd h => ⟨fd, h, He.glo_ok X G (c.t.d.fact 3 rfl)⟩
    f_filled_pair := (c.t.d.def_ 4 rfl).elim fun fd h => ⟨fd, h, He.glo_ok X G (c.t.d.fact 4 rfl)⟩
    f_filled_tokens := (c.t.d.def_ 5 rfl).elim fun fd h => ⟨fd, h, He.glo_ok X G (c.t.d.fact 5 rfl)⟩
    f_token_pieces := (c.t.d.def_ 6 rfl).elim fun fd h => ⟨fd, h, He.glo_ok X G (c.t.d.fact 6 rfl)⟩
    f_marks_of := (c.t.d.def_ 7 rfl).elim fun fd h => ⟨fd, h, He.glo_ok X G (c.t.d.fact 7 rfl)⟩
    f_fill := (c.t.d.def_ 8 rfl).elim fun fd h => ⟨fd, h, He.glo_ok X G (c.t.d.fact 8 rfl)⟩
    f_is_open := (c.t.d.def_ 9 rfl).elim fun fd h => ⟨fd, h, He.glo_ok X G (c.t.d.fact 9 rfl)⟩
    f_is_number := (c.t.d.def_ 10 rfl).elim fun fd h => ⟨fd, h, He.glo_ok X G (c.t.d.fact 10 rfl)⟩
    f_character_of := (c.t.d.def_ 11 rfl).elim fun fd h => ⟨fd, h, He.glo_ok X G (c.t.d.fact 11 rfl)⟩
    f_reference_text := (c.t.d.def_ 12 rfl).elim fun fd h => ⟨fd, h, He.glo_ok X G (c.t.d.fact 12 rfl)⟩
    f_leads_on := (c.t.d.def_ 13 rfl).elim fun fd h => ⟨fd, h, He.glo_ok X G (c.t.d.fact 13 rfl)⟩
    f_is_beginning := (c.t.d.def_ 14 rfl).elim fun fd h => ⟨fd, h, He.glo_ok X G (c.t.d.fact 14 rfl)⟩
    f_least_reference := (c.t.d.def_ 15 rfl).elim fun fd h => ⟨fd, h, He.glo_ok X G (c.t.d.fact 15 rfl)⟩
    f_is_admissible := (c.t.d.def_ 16 rfl).elim fun fd h => ⟨fd, h, He.glo_ok X G (c.t.d.fact 16 rfl)⟩
    f_coding := (c.t.d.def_ 17 rfl).elim fun fd h => ⟨fd, h, He.glo_ok X G (c.t.d.fact 17 rfl)⟩
    f_image_of := (c.t.d.def_ 18 rfl).elim fun fd h => ⟨fd, h, He.glo_ok X G (c.t.d.fact 18 rfl)⟩
    f_coded := (c.t.d.def_ 19 rfl).elim fun fd h => ⟨fd, h, He.glo_ok X G (c.t.d.fact 19 rfl)⟩
    f_is_smaller := (c.t.d.def_ 20 rfl).elim fun fd h => ⟨fd, h, He.glo_ok X G (c.t.d.fact 20 rfl)⟩
    f_needs := (c.t.d.def_ 21 rfl).elim fun fd h => ⟨fd, h, He.glo_ok X G (c.t.d.fact 21 rfl)⟩
    f_completion := (c.t.d.def_ 22 rfl).elim fun fd h => ⟨fd, h, He.glo_ok X G (c.t.d.fact 22 rfl)⟩
    f_trial := (c.t.d.def_ 23 rfl).elim fun fd h => ⟨fd, h, He.glo_ok X G (c.t.d.fact 23 rfl)⟩
    f_pending_events := (c.t.d.def_ 24 rfl).elim fun fd h => ⟨fd, h, He.glo_ok X G (c.t.d.fact 24 rfl)⟩
    f_settled := (c.t.d.def_ 25 rfl).elim fun fd h => ⟨fd, h, He.glo_ok X G (c.t.d.fact 25 rfl)⟩
    f_read_again := (c.t.d.def_ 26 rfl).elim fun fd h => ⟨fd, h, He.glo_ok X G (c.t.d.fact 26 rfl)⟩
    f_settle_and_read := (c.t.d.def_ 27 rfl).elim fun fd h => ⟨fd, h, He.glo_ok X G (c.t.d.fact 27 rfl)⟩
    f_step_reference := (c.t.d.def_ 28 rfl).elim fun fd h => ⟨fd, h, He.glo_ok X G (c.t.d.fact 28 rfl)⟩
    f_step_text := (c.t.d.def_ 29 rfl).elim fun fd h => ⟨fd, h, He.glo_ok X G (c.t.d.fact 29 rfl)⟩
    f_longer_name := (c.t.d.def_ 30 rfl).elim fun fd h => ⟨fd, h, He.glo_ok X G (c.t.d.fact 30 rfl)⟩
    f_step_tag := (c.t.d.def_ 31 rfl).elim fun fd h => ⟨fd, h, He.glo_ok X G (c.t.d.fact 31 rfl)⟩
    f_step_gap := (c.t.d.def_ 32 rfl).elim fun fd h => ⟨fd, h, He.glo_ok X G (c.t.d.fact 32 rfl)⟩
    f_step_name := (c.t.d.def_ 33 rfl).elim fun fd h => ⟨fd, h, He.glo_ok X G (c.t.d.fact 33 rfl)⟩
    f_step_equals := (c.t.d.def_ 34 rfl).elim fun fd h => ⟨fd, h, He.glo_ok X G (c.t.d.fact 34 rfl)⟩
    f_step_value := (c.t.d.def_ 35 rfl).elim fun fd h => ⟨fd, h, He.glo_ok X G (c.t.d.fact 35 rfl)⟩
    f_step_comment := (c.t.d.def_ 36 rfl).elim fun fd h => ⟨fd, h, He.glo_ok X G (c.t.d.fact 36 rfl)⟩
    f_step_raw := (c.t.d.def_ 37 rfl).elim fun fd h => ⟨fd, h, He.glo_ok X G (c.t.d.fact 37 rfl)⟩
    f_step := (c.t.d.def_ 38 rfl).elim fun fd h => ⟨fd, h, He.glo_ok X G (c.t.d.fact 38 rfl)⟩
    f_finish := (c.t.d.def_ 39 rfl).elim fun fd h => ⟨fd, h, He.glo_ok X G (c.t.d.fact 39 rfl)⟩
    f_mark_step := (c.t.d.def_ 40 rfl).elim fun fd h => ⟨fd, h, He.glo_ok X G (c.t.d.fact 40 rfl)⟩
    f_item_step := (c.t.d.def_ 41 rfl).elim fun fd h => ⟨fd, h, He.glo_ok X G (c.t.d.fact 41 rfl)⟩
    f_marked_events := (c.t.d.def_ 42 rfl).elim fun fd h => ⟨fd, h, He.glo_ok X G (c.t.d.fact 42 rfl)⟩
    f_state_after := (c.t.d.def_ 43 rfl).elim fun fd h => ⟨fd, h, He.glo_ok X G (c.t.d.fact 43 rfl)⟩
    f_read_row := (c.t.d.def_ 44 rfl).elim fun fd h => ⟨fd, h, He.glo_ok X G (c.t.d.fact 44 rfl)⟩
    f_events := (c.t.d.def_ 45 rfl).elim fun fd h => ⟨fd, h, He.glo_ok X G (c.t.d.fact 45 rfl)⟩
    f_read := (c.t.d.def_ 46 rfl).elim fun fd h => ⟨fd, h, He.glo_ok X G (c.t.d.fact 46 rfl)⟩
    f__law_draws := (c.t.d.def_ 47 rfl).elim fun fd h => ⟨fd, h, He.glo_ok X G (c.t.d.fact 47 rfl)⟩
    f__law_at := (c.t.d.def_ 48 rfl).elim fun fd h => ⟨fd, h, He.glo_ok X G (c.t.d.fact 48 rfl)⟩
    f__law_row := (c.t.d.def_ 49 rfl).elim fun fd h => ⟨fd, h, He.glo_ok X G (c.t.d.fact 49 rfl)⟩
    f_law := (c.t.d.def_ 50 rfl).elim fun fd h => ⟨fd, h, He.glo_ok X G (c.t.d.fact 50 rfl)⟩
    cl := He.cls_ok (c.t.d.fact 79 rfl)
    nT := He.noat_ok (c.t.d.fact 80 rfl)
    nG := He.noat_ok (c.t.d.fact 81 rfl)
    mkr := He.mkr_ok (c.t.d.fact 82 rfl)
    k___init__ := c.t.d.def_ 51 rfl
    k_begin := c.t.d.def_ 52 rfl
    k_attribute := c.t.d.def_ 53 rfl
    k_value := c.t.d.def_ 54 rfl
    k_take := c.t.d.def_ 55 rfl
    m_begin := He.meth_ok (c.t.d.fact 83 rfl)
    m_attribute := He.meth_ok (c.t.d.fact 84 rfl)
    m_value := He.meth_ok (c.t.d.fact 85 rfl)
    m_take := He.meth_ok (c.t.d.fact 86 rfl) }
/-- the function object at an address is one -/
theorem fd_eq {K : PySem.W.Frag} {x q : Str} {pa : Arguments} {bd : List Stmt} {sc : Scope} {f : Addr} {fd fd' : FuncData} (h : FunD K x q pa bd sc [] [] f fd) (h' : FunD K x q pa bd sc [] [] f fd') : fd = fd' := by
  obtain ⟨_, _, _, _, _, _, _, _, _, _, e1, l1, _⟩ := h.ex
  obtain ⟨_, _, _, _, _, _, _, _, _, _, e2, l2, _⟩ := h'.ex
  rw [l1] at l2
  injection l2 with l2
  injection l2 with _ _ l2 _
  injection l2
end K49
open PySem PySem.W PySem.Calls PyProof.Rows
theorem PySem.Challenge.cw_samepage_k49_whole_nothing_smaller_works_holds : PySem.Challenge.rw_samepage_k49_whole_nothing_smaller_works.Holds := by
  w_on; o_law
  refine HandSHeadRun.head_any (r := OpenLaw.row PySem.Challenge.rw_samepage_k49_whole_nothing_smaller_works) (q := view (OpenLaw.row PySem.Challenge.rw_samepage_k49_whole_nothing_smaller_works).prog [84]) (H := K49.hk) (ob := K49.ob) (M := 6000) (loose := K49.names) (d := HandSHeadRun.topDef (OpenLaw.row PySem.Challenge.rw_samepage_k49_whole_nothing_smaller_works).prog 84) (kwd := []) K49.ob_eq
    (by kernel_rfl) (fun s => by kernel_rfl) K49.run (by kernel_rfl) (by kernel_rfl) (by kernel_rfl) (by rfl) (by first | assumption | decide +kernel) (by decide +kernel) ⟨rfl, rfl, rfl, rfl, rfl, by decide +kernel⟩ ?hw ?hc
  case hw => w_witness2
  case hc =>
    refine L2.walk_ofE (l := PySem.Challenge.rw_samepage_k49_whole_nothing_smaller_works) (n := 63) (k := 19) (x := "_law_script") (CX := C8.CX0) rfl (by decide) (by kernel_rfl) ⟨rfl, by decide, by decide⟩ ?F (fun _ _ _ _ z => z)
    intro w mg fa h Y G hmg0
    obtain ⟨K, KX, c⟩ := Y
    have hmg : mg ("law" : PySem.Str) = some (.ref fa) := by
      have e : (HandSHeadRun.topDef (OpenLaw.row PySem.Challenge.rw_samepage_k49_whole_nothing_smaller_works).prog 84).name = ("law" : PySem.Str) := by kernel_rfl
      rw [← e]
      exact hmg0
    have T := K49.fx_of KX G c
    obtain ⟨fd, F, hm⟩ := T.f_law
    have e := hmg.symm.trans hm
    cases e
    have b := L2.FunD.bindsA (ps := ["_law_script"]) F fun _ _ _ _ _ _ us hl => match us, hl with | [_], _ => rfl
    refine ⟨K, fd, K49.spLaw K, KX, fun s v => b s [v] rfl, fun H a ns hl _ hS => ⟨a, ns, rfl, hS, hl, fun _ => rfl⟩, fun base _ _ => ?_⟩
    obtain ⟨fd', ok, _, F'⟩ := K49.law_all (P := PySem.Challenge.rw_samepage_k49_whole_nothing_smaller_works.prog) (w := w) (base := base) T
    have ef : fd = fd' := K49.fd_eq F F'
    rw [ef]
    exact ok
