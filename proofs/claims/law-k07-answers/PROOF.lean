import PyProof.Rows.All
import Wide.All
import OpenK.AllK
import Wide.FinOn
import HandS.ForMost
import HandS.ForExc
import HandS.TupAny
import HandS.Zip
import HandS.WideBits
import HandS.Walk
import HandS.Replace
import HandS.More
import PySem.Challenge.RW_sumgrove_k07_answers_of_whole_trees
import KE.IntBitsLaws
import KE.KExcSuper
import KE.KSuper
import HandS.ExcSuper
import HandS.Base
import HandS.Call
import HandS.Exc
import HandS.ExcInit
import HandS.WordsExc
import HandS.ExcOwn
import HandS.ExcField
import HandS.ExcIs
import KE.KExcIs
import Wide.Loose
import Open.SpecLaws
set_option Elab.async false
set_option linter.all false
set_option maxRecDepth 100000
set_option maxHeartbeats 4000000
namespace SG
open PySem L2

/-! ### data -/
inductive D where
  | non | bl (b : Bool) | int (i : Int) | str (x : Str) | tup (ds : List D) | lst (ds : List D) | sq (ds : List D) | dct (kvs : List (Str × D)) | obj (C : Addr) (p : Int) | raw (v : V)

mutual
inductive Den (K : PySem.W.Frag) (H : Hp) : V → D → Prop
  | non : Den K H .non .non
  | bl (b : Bool) : Den K H (.bl b) (.bl b)
  | int (i : Int) : Den K H (.int i) (.int i)
  | str (x : Str) : Den K H (.str x) (.str x)
  | tup {a : Addr} {xs : List V} {ds : List D} : SqT K H a xs → DenL K H xs ds → Den K H (.ref a) (.tup ds)
  | lst {a : Addr} {xs : List V} {ds : List D} : H a = some (.lst xs) → DenL K H xs ds → Den K H (.ref a) (.lst ds)
  | sq {a : Addr} {xs : List V} {ds : List D} : SqL K H a xs → DenL K H xs ds → Den K H (.ref a) (.sq ds)
  | dct {a : Addr} {kxs : List (Key × V)} {kvs : List (Str × D)} : H a = some (.dK kxs) → DenK K H kxs kvs → Den K H (.ref a) (.dct kvs)
  | raw (v : V) : Den K H v (.raw v)
  | obj {a C dx : Addr} {p : Int} : H a = some (.ins C dx [("_modulus", .int p)]) → Den K H (.ref a) (.obj C p)
inductive DenL (K : PySem.W.Frag) (H : Hp) : List V → List D → Prop
  | nil : DenL K H [] []
  | cons {v : V} {d : D} {vs : List V} {ds : List D} : Den K H v d → DenL K H vs ds → DenL K H (v :: vs) (d :: ds)
inductive DenK (K : PySem.W.Frag) (H : Hp) : List (Key × V) → List (Str × D) → Prop
  | nil : DenK K H [] []
  | cons {x : Str} {v : V} {d : D} {vs : List (Key × V)} {ds : List (Str × D)} : Den K H v d → DenK K H vs ds → DenK K H ((Sum.inr x, v) :: vs) ((x, d) :: ds)
end
section
variable {K : PySem.W.Frag} {H H' : Hp}
theorem same_tup {a : Addr} {xs : List V} (e : Same H H') (h : SqT K H a xs) : SqT K H' a xs := by
  rcases h with (h | ⟨o, h⟩) | h
  · exact .inl (.inl (e _ _ h))
  · exact .inl (.inr ⟨o, e _ _ h⟩)
  · exact .inr h
theorem same_rd {a : Addr} {u : HO} (e : Same H H') (h : Rd H a u) : Rd H' a u := by
  rcases h with h | ⟨o, h⟩
  · exact .inl (e _ _ h)
  · exact .inr ⟨o, e _ _ h⟩
theorem same_new {p : Addr} (h : H p = none) (o : HO) : Same H (upd H p o) := fun b u q => by rw [upd_ne (ne_of_none q h)]; exact q
mutual
theorem Den.mono (e : Same H H') : ∀ {v : V} {d : D}, Den K H v d → Den K H' v d
  | _, _, .non => .non
  | _, _, .bl b => .bl b
  | _, _, .int i => .int i
  | _, _, .str x => .str x
  | _, _, .tup h l => .tup (same_tup e h) (DenL.mono e l)
  | _, _, .lst h l => .lst (e _ _ h) (DenL.mono e l)
  | _, _, .sq h l => .sq (Same.seq e h) (DenL.mono e l)
  | _, _, .dct h l => .dct (e _ _ h) (DenK.mono e l)
  | _, _, .raw v => .raw v
  | _, _, .obj h => .obj (e _ _ h)
theorem DenL.mono (e : Same H H') : ∀ {v : List V} {d : List D}, DenL K H v d → DenL K H' v d
  | _, _, .nil => .nil
  | _, _, .cons h l => .cons (Den.mono e h) (DenL.mono e l)
theorem DenK.mono (e : Same H H') : ∀ {v : List (Key × V)} {d : List (Str × D)}, DenK K H v d → DenK K H' v d
  | _, _, .nil => .nil
  | _, _, .cons h l => .cons (Den.mono e h) (DenK.mono e l)
end
theorem DenL.length : ∀ {vs : List V} {ds : List D}, DenL K H vs ds → vs.length = ds.length
  | _, _, .nil => rfl
  | _, _, .cons _ l => congrArg (· + 1) l.length
theorem DenL.get : ∀ {vs : List V} {ds : List D}, DenL K H vs ds → ∀ {i : Nat} {d : D}, ds[i]? = some d → ∃ v, vs[i]? = some v ∧ Den K H v d
  | _, _, .nil, i, d, h => by simp at h
  | _, _, .cons h _, 0, d, e => by
    simp at e
    subst e
    exact ⟨_, rfl, h⟩
  | _, _, .cons _ l, i + 1, d, e => by
    obtain ⟨v, h1, h2⟩ := l.get (i := i) (d := d) (by simpa using e)
    exact ⟨v, by simpa using h1, h2⟩
theorem DenL.get' : ∀ {vs : List V} {ds : List D}, DenL K H vs ds → ∀ {i : Nat} {v : V}, vs[i]? = some v → ∃ d, ds[i]? = some d ∧ Den K H v d
  | _, _, .nil, i, d, h => by simp at h
  | _, _, .cons h _, 0, d, e => by
    simp at e
    subst e
    exact ⟨_, rfl, h⟩
  | _, _, .cons _ l, i + 1, v, e => by
    obtain ⟨d, h1, h2⟩ := l.get' (i := i) (v := v) (by simpa using e)
    exact ⟨d, by simpa using h1, h2⟩
theorem DenL.append : ∀ {vs us : List V} {ds es : List D}, DenL K H vs ds → DenL K H us es → DenL K H (vs ++ us) (ds ++ es)
  | _, _, _, _, .nil, s => s
  | _, _, _, _, .cons r t, s => .cons r (DenL.append t s)
theorem DenL.take : ∀ {vs : List V} {ds : List D} (n : Nat), DenL K H vs ds → DenL K H (vs.take n) (ds.take n)
  | _, _, 0, _ => .nil
  | _, _, _ + 1, .nil => .nil
  | _, _, n + 1, .cons r t => .cons r (DenL.take n t)
theorem DenL.drop : ∀ {vs : List V} {ds : List D} (n : Nat), DenL K H vs ds → DenL K H (vs.drop n) (ds.drop n)
  | _, _, 0, r => r
  | _, _, _ + 1, .nil => .nil
  | _, _, n + 1, .cons _ t => DenL.drop n t
theorem DenL.ints : ∀ {ns : List Int}, DenL K H (ns.map V.int) (ns.map D.int)
  | [] => .nil
  | n :: _ => .cons (.int n) DenL.ints
theorem DenL.ints_inv : ∀ {vs : List V} {ns : List Int}, DenL K H vs (ns.map D.int) → vs = ns.map V.int
  | _, [], h => by cases h; rfl
  | _, n :: r, h => by
    cases h with
    | cons h l =>
      cases h
      rw [DenL.ints_inv l]
      rfl
theorem DenL.bls_inv : ∀ {vs : List V} {ns : List Bool}, DenL K H vs (ns.map D.bl) → vs = ns.map V.bl
  | _, [], h => by cases h; rfl
  | _, n :: r, h => by
    cases h with
    | cons h l =>
      cases h
      rw [DenL.bls_inv l]
      rfl
theorem DenL.strs : ∀ {ns : List Str}, DenL K H (ns.map V.str) (ns.map D.str)
  | [] => .nil
  | n :: _ => .cons (.str n) DenL.strs
theorem Den.int_inv {v : V} {i : Int} (h : Den K H v (.int i)) : v = .int i := by cases h; rfl
theorem Den.str_inv {v : V} {i : Str} (h : Den K H v (.str i)) : v = .str i := by cases h; rfl
theorem Den.bl_inv {v : V} {i : Bool} (h : Den K H v (.bl i)) : v = .bl i := by cases h; rfl
theorem Den.non_inv {v : V} (h : Den K H v .non) : v = .non := by cases h; rfl
/-- a new list -/
theorem Den.new_tup {vs : List V} {ds : List D} {p : Addr} (h : DenL K H vs ds) (n : H p = none) : Den K (upd H p (.tup vs)) (.ref p) (.tup ds) :=
  .tup (.inl (.inl upd_same)) (h.mono (same_new n _))
theorem Den.new_lst {vs : List V} {ds : List D} {p : Addr} (h : DenL K H vs ds) (n : H p = none) : Den K (upd H p (.lst vs)) (.ref p) (.lst ds) :=
  .lst upd_same (h.mono (same_new n _))
end

/-! ### environments on data -/
abbrev DEnv := List (Option D)
def Em (K : PySem.W.Frag) (H : Hp) (σ : L2.St) (ρ : DEnv) : Prop := ρ.length = σ.length ∧ ∀ (i : Nat) (d : D), ρ[i]? = some (some d) → ∃ v, σ[i]? = some (some v) ∧ Den K H v d
/-- ρ knows all that ρ' knows -/
def Sub (ρ ρ' : DEnv) : Prop := ρ'.length = ρ.length ∧ ∀ (i : Nat) (d : D), ρ'[i]? = some (some d) → ρ[i]? = some (some d)
section
variable {K : PySem.W.Frag} {H H' : Hp} {σ : L2.St} {ρ ρ' : DEnv}
theorem Sub.refl (ρ : DEnv) : Sub ρ ρ := ⟨rfl, fun _ _ h => h⟩
theorem sub_nil : Sub [] [] := Sub.refl _
theorem sub_eq {a b : Option D} {l m : DEnv} (e : a = b) (h : Sub l m) : Sub (a :: l) (b :: m) := by
  refine ⟨congrArg (· + 1) h.1, fun i d q => ?_⟩
  subst e
  cases i with
  | zero => exact q
  | succ i => exact h.2 i d q
theorem sub_same {a : Option D} {l m : DEnv} (h : Sub l m) : Sub (a :: l) (a :: m) := sub_eq rfl h
theorem sub_none {a : Option D} {l m : DEnv} (h : Sub l m) : Sub (a :: l) (none :: m) := by
  refine ⟨congrArg (· + 1) h.1, fun i d q => ?_⟩
  cases i with
  | zero => cases q
  | succ i => exact h.2 i d q
theorem Em.mono (e : Same H H') (h : Em K H σ ρ) : Em K H' σ ρ := ⟨h.1, fun i d q => let ⟨v, a, b⟩ := h.2 i d q; ⟨v, a, b.mono e⟩⟩
theorem Em.sub (h : Em K H σ ρ) (s : Sub ρ ρ') : Em K H σ ρ' := ⟨s.1.trans h.1, fun i d q => h.2 i d (s.2 i d q)⟩
theorem Em.set {i : Nat} {v : V} {d : D} (h : Em K H σ ρ) (hd : Den K H v d) : Em K H (σ.set i (some v)) (ρ.set i (some d)) := by
  refine ⟨by rw [List.length_set, List.length_set]; exact h.1, fun j e q => ?_⟩
  by_cases c : i = j
  · subst c
    by_cases l : i < ρ.length
    · rw [List.getElem?_set_self l] at q
      cases q
      exact ⟨v, List.getElem?_set_self (by rw [← h.1]; exact l), hd⟩
    · rw [List.getElem?_eq_none (by rw [List.length_set]; omega)] at q
      cases q
  · rw [List.getElem?_set_ne c] at q
    rw [List.getElem?_set_ne c]
    exact h.2 j e q
def startD (N : List Str) (ds : List D) : DEnv := ds.map some ++ List.replicate (N.length - ds.length) none
theorem em_start {N : List Str} {vs : List V} {ds : List D} (h : DenL K H vs ds) : Em K H (L2.start N vs) (startD N ds) := by
  have hl := h.length
  refine ⟨?_, fun i d q => ?_⟩
  · unfold startD L2.start
    simp only [List.length_append, List.length_map, List.length_replicate, hl]
  · unfold startD at q
    unfold L2.start
    by_cases c : i < ds.length
    · rw [List.getElem?_append_left (by simpa using c), List.getElem?_map] at q
      cases e : ds[i]? with
      | none => rw [e] at q; cases q
      | some d' =>
        rw [e] at q
        cases q
        obtain ⟨v, h1, h2⟩ := h.get e
        exact ⟨v, by rw [List.getElem?_append_left (by simpa [hl] using c), List.getElem?_map, h1]; rfl, h2⟩
    · rw [List.getElem?_append_right (by simpa using c), List.getElem?_replicate] at q
      split at q <;> cases q
def wipeD (ρ : DEnv) : List Nat → DEnv
  | [] => ρ
  | v :: vs => (wipeD ρ vs).set v none
theorem Em.wipe (h : Em K H σ ρ) : ∀ vs : List Nat, Em K H (wipe σ vs) (wipeD ρ vs)
  | [] => h
  | v :: vs => by
    have g := Em.wipe h vs
    unfold L2.wipe wipeD
    refine ⟨by rw [List.length_set, List.length_set]; exact g.1, fun j e q => ?_⟩
    by_cases c : v = j
    · subst c
      by_cases l : v < (wipeD ρ vs).length
      · rw [List.getElem?_set_self l] at q
        cases q
      · rw [List.getElem?_eq_none (by rw [List.length_set]; omega)] at q
        cases q
    · rw [List.getElem?_set_ne c] at q
      rw [List.getElem?_set_ne c]
      exact g.2 j e q
end

/-! ### growth: G is the part of the heap H that the data stand in; the rest of H may be changed by others -/
structure Gr (G H G' H' : Hp) : Prop where
  h : Same H H'
  g : Same G G'
  ok : Same G' H'
  fr : ∀ a o, H a = some o → G' a = G a
section
variable {G H G1 H1 G2 H2 : Hp}
theorem Gr.refl (k : Same G H) : Gr G H G H := ⟨Same.refl H, Same.refl G, k, fun _ _ _ => rfl⟩
theorem Gr.trans (a : Gr G H G1 H1) (b : Gr G1 H1 G2 H2) : Gr G H G2 H2 := ⟨a.h.trans b.h, a.g.trans b.g, b.ok, fun x o e => (b.fr x o (a.h x o e)).trans (a.fr x o e)⟩
theorem Gr.new (k : Same G H) {p : Addr} (n : H p = none) (o : HO) : Gr G H (upd G p o) (upd H p o) := by
  have gn : G p = none := Same.free k n
  refine ⟨same_new n o, same_new gn o, fun a u e => ?_, fun a u e => upd_ne (ne_of_none e n)⟩
  by_cases c : a = p
  · subst c
    rw [upd_same] at e ⊢
    exact e
  · rw [upd_ne c] at e ⊢
    exact k a u e
end

/-! ### judgements on data: a reading gives a datum -/
def XE (K : PySem.W.Frag) (t : TE) (ρ : DEnv) (d : D) : Prop := ∀ (σ : L2.St) (G H : Hp), Same G H → Em K G σ ρ → ∀ Q : VK, (∀ r G' H', Gr G H G' H' → Den K G' r d → Q r H') → t σ H Q
def XA (K : PySem.W.Frag) (t : TA) (ρ : DEnv) (ds : List D) : Prop := ∀ (σ : L2.St) (G H : Hp), Same G H → Em K G σ ρ → ∀ Q : List V → Hp → Prop, (∀ r G' H', Gr G H G' H' → DenL K G' r ds → Q r H') → t σ H Q
def XT (K : PySem.W.Frag) (t : TT) (ρ : DEnv) (b : Bool) : Prop := ∀ (σ : L2.St) (G H : Hp), Same G H → Em K G σ ρ → ∀ Q : Bool → Hp → Prop, (∀ G' H', Gr G H G' H' → Q b H') → t σ H Q
def XO (K : PySem.W.Frag) (t : TO) (ρ : DEnv) (o : Option Int) : Prop := ∀ (σ : L2.St) (G H : Hp), Same G H → Em K G σ ρ → ∀ Q : Option Int → Hp → Prop, (∀ G' H', Gr G H G' H' → Q o H') → t σ H Q
/-- a two-place operation on data -/
def XR (K : PySem.W.Frag) (r : R2) (d e f : D) : Prop := ∀ (x y : V) (G H : Hp), Same G H → Den K G x d → Den K G y e → ∀ Q : VK, (∀ z G' H', Gr G H G' H' → Den K G' z f → Q z H') → r x y H Q
/-- a call of a built-in on data -/
def XC (K : PySem.W.Frag) (r : List V → Hp → VK → Prop) (ds : List D) (f : D) : Prop := ∀ (xs : List V) (G H : Hp), Same G H → DenL K G xs ds → ∀ Q : VK, (∀ z G' H', Gr G H G' H' → Den K G' z f → Q z H') → r xs H Q

section
variable {K : PySem.W.Frag} {ρ ρ' : DEnv} {ta tb tc te : TE} {d e f : D} {r : R2} {i j : Int}
theorem XE.sub (h : XE K te ρ' d) (s : Sub ρ ρ') : XE K te ρ d := fun σ G H k m Q q => h σ G H k (m.sub s) Q q
theorem XE.to (h : XE K te ρ d) (q : d = e) : XE K te ρ e := by rw [← q]; exact h
theorem xe_var {n : Nat} (h : ρ[n]? = some (some d)) : XE K (tVar n) ρ d := fun σ G H k m Q q => by
  obtain ⟨v, h1, h2⟩ := m.2 n d h
  exact ⟨v, h1, q v G H (.refl k) h2⟩
theorem xe_c {v : V} (h : ∀ H, Den K H v d) : XE K (tC v) ρ d := fun σ G H k m Q q => q v G H (.refl k) (h G)
theorem xe_int : XE K (tC (.int i)) ρ (.int i) := xe_c fun _ => .int i
theorem xe_str {x : Str} : XE K (tC (.str x)) ρ (.str x) := xe_c fun _ => .str x
theorem xe_bl {x : Bool} : XE K (tC (.bl x)) ρ (.bl x) := xe_c fun _ => .bl x
theorem xe_non : XE K (tC .non) ρ .non := xe_c fun _ => .non
theorem xe_op (ha : XE K ta ρ d) (hb : XE K tb ρ e) (hr : XR K r d e f) : XE K (tOp r ta tb) ρ f := fun σ G H k m Q q =>
  ha σ G H k m _ fun x G1 H1 s1 d1 => hb σ G1 H1 s1.ok (m.mono s1.g) _ fun y G2 H2 s2 d2 => hr x y G2 H2 s2.ok (d1.mono s2.g) d2 Q fun z G3 H3 s3 d3 => q z G3 H3 ((s1.trans s2).trans s3) d3
theorem xa_nil : XA K tNil ρ [] := fun σ G H k m Q q => q [] G H (.refl k) .nil
theorem xa_cons {tr : TA} {ds : List D} (ha : XE K ta ρ d) (hr : XA K tr ρ ds) : XA K (tCons ta tr) ρ (d :: ds) := fun σ G H k m Q q =>
  ha σ G H k m _ fun x G1 H1 s1 d1 => hr σ G1 H1 s1.ok (m.mono s1.g) _ fun xs G2 H2 s2 d2 => q (x :: xs) G2 H2 (s1.trans s2) (.cons (d1.mono s2.g) d2)
theorem xe_tup {ta : TA} {ds : List D} (h : XA K ta ρ ds) (hl : ds.length ≤ 100000) : XE K (tTup ta) ρ (.tup ds) := fun σ G H k m Q q =>
  h σ G H k m _ fun xs G1 H1 s1 d1 => ⟨by rw [d1.length]; exact Nat.le_trans hl (by decide), fun p hp => q _ _ _ (s1.trans (Gr.new s1.ok hp _)) (Den.new_tup d1 (Same.free s1.ok hp))⟩
theorem xe_lst {ta : TA} {ds : List D} (h : XA K ta ρ ds) (hl : ds.length ≤ 100000) : XE K (tLst ta) ρ (.lst ds) := fun σ G H k m Q q =>
  h σ G H k m _ fun xs G1 H1 s1 d1 => ⟨by rw [d1.length]; exact Nat.le_trans hl (by decide), fun p hp => q _ _ _ (s1.trans (Gr.new s1.ok hp _)) (Den.new_lst d1 (Same.free s1.ok hp))⟩
theorem xe_cb {rc : List V → Hp → VK → Prop} {ta : TA} {ds : List D} (h : XA K ta ρ ds) (hr : XC K rc ds d) : XE K (tCB rc ta) ρ d := fun σ G H k m Q q =>
  h σ G H k m _ fun xs G1 H1 s1 d1 => hr xs G1 H1 s1.ok d1 Q fun z G2 H2 s2 d2 => q z G2 H2 (s1.trans s2) d2

/-! ### operations -/
def rOr (r r' : R2) : R2 := fun x y H Q => r x y H Q ∨ r' x y H Q
theorem opr_or {X : Cx} {f : Value → Value → Sem Value} {r r' : R2} (h : OpR X f r) (h' : OpR X f r') : OpR X f (rOr r r') := by
  intro pins s σ H x y v u Q I rx ry q
  rcases q with q | q
  · exact h pins s σ H x y v u Q I rx ry q
  · exact h' pins s σ H x y v u Q I rx ry q
theorem xr_l {r r' : R2} (h : XR K r d e f) : XR K (rOr r r') d e f := fun x y G H k h1 h2 Q q => .inl (h x y G H k h1 h2 Q q)
theorem xr_r {r r' : R2} (h : XR K r' d e f) : XR K (rOr r r') d e f := fun x y G H k h1 h2 Q q => .inr (h x y G H k h1 h2 Q q)
theorem xr_I0 {g : Int → Int → Int} : XR K (rI0 fun i j => .int (g i j)) (.int i) (.int j) (.int (g i j)) := fun x y G H k h1 h2 Q q => by
  cases h1; cases h2
  exact ⟨i, j, rfl, rfl, q _ G H (.refl k) (.int _)⟩
theorem xr_I {C : Int → Int → Prop} {g : Int → Int → Int} (h : C i j) : XR K (rI C fun i j => .int (g i j)) (.int i) (.int j) (.int (g i j)) := fun x y G H k h1 h2 Q q => by
  cases h1; cases h2
  exact ⟨i, j, rfl, rfl, h, q _ G H (.refl k) (.int _)⟩
theorem xr_B0 {g : Int → Int → Bool} : XR K (rI0 fun i j => .bl (g i j)) (.int i) (.int j) (.bl (g i j)) := fun x y G H k h1 h2 Q q => by
  cases h1; cases h2
  exact ⟨i, j, rfl, rfl, q _ G H (.refl k) (.bl _)⟩
abbrev rAddI : R2 := rI0 fun i j => .int (i + j)
abbrev rSubI : R2 := rI0 fun i j => .int (i - j)
abbrev rAddS : R2 := fun x y H Q => ∃ i j, x = .str i ∧ y = .str j ∧ i.length + j.length ≤ sizeLine ∧ Q (.str (i ++ j)) H
abbrev rAddU (K : PySem.W.Frag) : R2 := rOr rAddI (rOr (rCatA K) (rOr rCat rAddS))
theorem op_addU {X : Cx} : OpR X (binaryOp .Add) (rAddU X.K) := opr_or op_add (opr_or op_catA (opr_or op_cat op_add_str))
theorem xr_addI : XR K (rAddU K) (.int i) (.int j) (.int (i + j)) := xr_l xr_I0
theorem xr_addT {xs ys : List D} (h : xs.length + ys.length ≤ 100000) : XR K (rAddU K) (.tup xs) (.tup ys) (.tup (xs ++ ys)) := xr_r (xr_l fun x y G H k h1 h2 Q q => by
  cases h1 with
  | tup s1 l1 =>
    cases h2 with
    | tup s2 l2 =>
      refine ⟨_, _, _, _, rfl, rfl, same_tup k s1, same_tup k s2, by rw [l1.length, l2.length]; exact Nat.le_trans h (by decide), fun c => ?_, fun c1 c2 => ?_, fun c1 c2 p hp => ?_⟩
      · subst c
        cases l1
        exact q _ G H (.refl k) (.tup s2 l2)
      · subst c2
        cases l2
        rw [List.append_nil] at q
        exact q _ G H (.refl k) (.tup s1 l1)
      · exact q _ _ _ (Gr.new k hp _) (Den.new_tup (l1.append l2) (Same.free k hp)))
theorem xr_addL {xs ys : List D} (h : xs.length + ys.length ≤ 100000) : XR K (rAddU K) (.lst xs) (.lst ys) (.lst (xs ++ ys)) := xr_r (xr_r (xr_l fun x y G H k h1 h2 Q q => by
  cases h1 with
  | lst s1 l1 =>
    cases h2 with
    | lst s2 l2 =>
      exact ⟨_, _, _, _, rfl, rfl, k _ _ s1, k _ _ s2, by rw [l1.length, l2.length]; exact Nat.le_trans h (by decide), fun p hp => q _ _ _ (Gr.new k hp _) (Den.new_lst (l1.append l2) (Same.free k hp))⟩))
theorem xr_addS {x y : Str} (h : x.length + y.length ≤ 100000) : XR K (rAddU K) (.str x) (.str y) (.str (x ++ y)) := xr_r (xr_r (xr_r fun v u G H k h1 h2 Q q => by
  cases h1; cases h2
  exact ⟨x, y, rfl, rfl, Nat.le_trans h (by decide), q _ G H (.refl k) (.str _)⟩))
theorem xr_sub : XR K rSubI (.int i) (.int j) (.int (i - j)) := xr_I0
abbrev rMulI : R2 := rI CMul fun i j => .int (i * j)
abbrev rMulU : R2 := rOr rMulI rRep
theorem op_mulU {X : Cx} : OpR X (binaryOp .Mult) rMulU := opr_or op_mul op_rep
theorem xr_mulI (h : CMul i j) : XR K rMulU (.int i) (.int j) (.int (i * j)) := xr_l (xr_I h)
theorem xr_fdiv (h : CDivN i j) : XR K (rI CDivN fun i j => .int (i.fdiv j)) (.int i) (.int j) (.int (i.fdiv j)) := xr_I h
theorem xr_mod (h : j ≠ 0) : XR K (rI (fun _ j => j ≠ 0) fun i j => .int (i.fmod j)) (.int i) (.int j) (.int (i.fmod j)) := xr_I (C := fun _ j => j ≠ 0) h
theorem xr_shr (h : 0 ≤ j) : XR K (rI (fun _ j => 0 ≤ j) fun i j => .int (i / 2 ^ j.toNat)) (.int i) (.int j) (.int (i / 2 ^ j.toNat)) := xr_I (C := fun _ j => 0 ≤ j) (g := fun i j => i / 2 ^ j.toNat) h
theorem xr_xor : XR K (rI0 fun i j => .int (Builtin.bitXor i j)) (.int i) (.int j) (.int (Builtin.bitXor i j)) := xr_I0
/-! comparisons -/
theorem xr_eqI : XR K rEq (.int i) (.int j) (.bl (decide (i = j))) := fun x y G H k h1 h2 Q q => by
  cases h1; cases h2
  refine ⟨rfl, ?_⟩
  have e : decide (V.int i = V.int j) = decide (i = j) := by simp
  rw [e]
  exact q _ G H (.refl k) (.bl _)
theorem xr_eqS {x y : Str} : XR K rEq (.str x) (.str y) (.bl (decide (x = y))) := fun u v G H k h1 h2 Q q => by
  cases h1; cases h2
  refine ⟨rfl, ?_⟩
  have e : decide (V.str x = V.str y) = decide (x = y) := by simp
  rw [e]
  exact q _ G H (.refl k) (.bl _)
theorem xr_neI : XR K rNe (.int i) (.int j) (.bl (!decide (i = j))) := fun x y G H k h1 h2 Q q => by
  cases h1; cases h2
  refine ⟨rfl, ?_⟩
  have e : decide (V.int i = V.int j) = decide (i = j) := by simp
  rw [e]
  exact q _ G H (.refl k) (.bl _)
theorem xr_neS {x y : Str} : XR K rNe (.str x) (.str y) (.bl (!decide (x = y))) := fun u v G H k h1 h2 Q q => by
  cases h1; cases h2
  refine ⟨rfl, ?_⟩
  have e : decide (V.str x = V.str y) = decide (x = y) := by simp
  rw [e]
  exact q _ G H (.refl k) (.bl _)
abbrev rLtS : R2 := fun x y H Q => ∃ i j, x = .str i ∧ y = .str j ∧ Q (.bl (decide (i.cps.toList < j.cps.toList))) H
abbrev rLeS : R2 := fun x y H Q => ∃ i j, x = .str i ∧ y = .str j ∧ Q (.bl (!decide (j.cps.toList < i.cps.toList))) H
abbrev rGtS : R2 := fun x y H Q => ∃ i j, x = .str i ∧ y = .str j ∧ Q (.bl (decide (j.cps.toList < i.cps.toList))) H
abbrev rLtU : R2 := rOr (rI0 fun i j => .bl (decide (i < j))) rLtS
abbrev rLeU : R2 := rOr (rI0 fun i j => .bl (decide (i ≤ j))) rLeS
abbrev rGtU : R2 := rOr (rI0 fun i j => .bl (decide (j < i))) rGtS
abbrev rGeI : R2 := rI0 fun i j => .bl (decide (j ≤ i))
theorem op_ltU {X : Cx} : OpR X (compareOp .Lt) rLtU := opr_or op_lt op_lt_str
theorem op_leU {X : Cx} : OpR X (compareOp .LtE) rLeU := opr_or op_le op_le_str
theorem op_gtU {X : Cx} : OpR X (compareOp .Gt) rGtU := opr_or op_gt op_gt_str
theorem xr_ltI : XR K rLtU (.int i) (.int j) (.bl (decide (i < j))) := xr_l xr_B0
theorem xr_leI : XR K rLeU (.int i) (.int j) (.bl (decide (i ≤ j))) := xr_l xr_B0
theorem xr_gtI : XR K rGtU (.int i) (.int j) (.bl (decide (j < i))) := xr_l (xr_B0 (g := fun i j => decide (j < i)))
theorem xr_geI : XR K rGeI (.int i) (.int j) (.bl (decide (j ≤ i))) := xr_B0 (g := fun i j => decide (j ≤ i))
theorem xr_ltS {x y : Str} : XR K rLtU (.str x) (.str y) (.bl (decide (x.cps.toList < y.cps.toList))) := xr_r fun u v G H k h1 h2 Q q => by
  cases h1; cases h2
  exact ⟨x, y, rfl, rfl, q _ G H (.refl k) (.bl _)⟩
theorem xr_leS {x y : Str} : XR K rLeU (.str x) (.str y) (.bl (!decide (y.cps.toList < x.cps.toList))) := xr_r fun u v G H k h1 h2 Q q => by
  cases h1; cases h2
  exact ⟨x, y, rfl, rfl, q _ G H (.refl k) (.bl _)⟩
theorem xr_gtS {x y : Str} : XR K rGtU (.str x) (.str y) (.bl (decide (y.cps.toList < x.cps.toList))) := xr_r fun u v G H k h1 h2 Q q => by
  cases h1; cases h2
  exact ⟨x, y, rfl, rfl, q _ G H (.refl k) (.bl _)⟩
abbrev rIsN : R2 := fun x y H Q => y = .non ∧ Q (.bl (decide (x = .non))) H
abbrev rNotN : R2 := fun x y H Q => y = .non ∧ Q (.bl (!decide (x = .non))) H
def D.isN : D → Bool
  | .non => true
  | .raw v => decide (v = .non)
  | _ => false
theorem den_isN {H : Hp} {x : V} (h : Den K H x d) : decide (x = .non) = d.isN := by
  cases h <;> rfl
theorem xr_isN : XR K rIsN d .non (.bl d.isN) := fun u v G H k h1 h2 Q q => by
  cases h2
  refine ⟨rfl, ?_⟩
  rw [den_isN h1]
  exact q _ G H (.refl k) (.bl _)
theorem xr_notN : XR K rNotN d .non (.bl (!d.isN)) := fun u v G H k h1 h2 Q q => by
  cases h2
  refine ⟨rfl, ?_⟩
  rw [den_isN h1]
  exact q _ G H (.refl k) (.bl _)
abbrev rInC : R2 := fun x y H Q => ∃ (c : Nat) (z : Str), x = .str ⟨#[c]⟩ ∧ y = .str z ∧ Q (.bl (decide (c ∈ z.cps.toList))) H
theorem xr_inC {c : Nat} {z : Str} : XR K rInC (.str ⟨#[c]⟩) (.str z) (.bl (decide (c ∈ z.cps.toList))) := fun u v G H k h1 h2 Q q => by
  cases h1; cases h2
  exact ⟨c, z, rfl, rfl, q _ G H (.refl k) (.bl _)⟩
/-! subscripts -/
theorem xr_ixT {ds : List D} {n : Nat} (h : ds[n]? = some d) : XR K (rIx K) (.tup ds) (.int (n : Int)) d := fun u v G H k h1 h2 Q q => by
  cases h1 with
  | tup s l =>
    cases h2
    obtain ⟨x, g1, g2⟩ := l.get h
    exact .inr (.inl ⟨_, _, _, x, rfl, rfl, same_tup k s, atI_nat g1, q _ G H (.refl k) g2⟩)
theorem xr_ixL {ds : List D} {n : Nat} (h : ds[n]? = some d) : XR K (rIx K) (.lst ds) (.int (n : Int)) d := fun u v G H k h1 h2 Q q => by
  cases h1 with
  | lst s l =>
    cases h2
    obtain ⟨x, g1, g2⟩ := l.get h
    exact .inl ⟨_, _, _, x, rfl, rfl, SqL.of (k _ _ s), atI_nat g1, q _ G H (.refl k) g2⟩
theorem xr_ixQ {ds : List D} {n : Nat} (h : ds[n]? = some d) : XR K (rIx K) (.sq ds) (.int (n : Int)) d := fun u v G H k h1 h2 Q q => by
  cases h1 with
  | sq s l =>
    cases h2
    obtain ⟨x, g1, g2⟩ := l.get h
    exact .inl ⟨_, _, _, x, rfl, rfl, Same.seq k s, atI_nat g1, q _ G H (.refl k) g2⟩
theorem xr_ixS {z : Str} {n c : Nat} (hz : z.length ≤ 100000) (h : z.cps.toList[n]? = some c) : XR K (rIx K) (.str z) (.int (n : Int)) (.str ⟨#[c]⟩) := fun u v G H k h1 h2 Q q => by
  cases h1; cases h2
  exact .inr (.inr ⟨z, _, c, rfl, rfl, Nat.le_trans hz (by decide), atI_nat h, q _ G H (.refl k) (.str _)⟩)
/-! tests and truth values -/
theorem xt_test {b : Bool} (h : XE K te ρ (.bl b)) : XT K (tTest te) ρ b := fun σ G H k m Q q => h σ G H k m _ fun x G1 H1 s1 d1 => by
  cases d1
  exact ⟨b, rfl, q G1 H1 s1⟩
theorem xt_B {b : Bool} (h : XE K te ρ (.bl b)) : XT K (tB te) ρ b := fun σ G H k m Q q => h σ G H k m _ fun x G1 H1 s1 d1 => by
  cases d1
  exact ⟨b, rfl, q G1 H1 s1⟩
theorem XT.to {t : TT} {b c : Bool} (h : XT K t ρ b) (q : b = c) : XT K t ρ c := by rw [← q]; exact h
theorem xt_and {t u : TT} {a b : Bool} (h1 : XT K t ρ a) (h2 : a = true → XT K u ρ b) : XT K (tAnd t u) ρ (a && b) := fun σ G H k m Q q => h1 σ G H k m _ fun G1 H1 s1 => by
  cases a with
  | true => exact h2 rfl σ G1 H1 s1.ok (m.mono s1.g) Q fun G2 H2 s2 => q G2 H2 (s1.trans s2)
  | false => exact q G1 H1 s1
theorem xt_or {t u : TT} {a b : Bool} (h1 : XT K t ρ a) (h2 : a = false → XT K u ρ b) : XT K (tOr t u) ρ (a || b) := fun σ G H k m Q q => h1 σ G H k m _ fun G1 H1 s1 => by
  cases a with
  | true => exact q G1 H1 s1
  | false => exact h2 rfl σ G1 H1 s1.ok (m.mono s1.g) Q fun G2 H2 s2 => q G2 H2 (s1.trans s2)
theorem xt_not {t : TT} {a : Bool} (h : XT K t ρ a) : XT K (tNot t) ρ (!a) := fun σ G H k m Q q => h σ G H k m _ fun G1 H1 s1 => q G1 H1 s1
theorem xt_yes : XT K tYes ρ true := fun σ G H k m Q q => q G H (.refl k)
theorem xe_and {a b : Bool} (h1 : XE K ta ρ (.bl a)) (h2 : a = true → XE K tb ρ (.bl b)) : XE K (tAndV ta tb) ρ (.bl (a && b)) := fun σ G H k m Q q => h1 σ G H k m _ fun x G1 H1 s1 d1 => by
  cases d1
  refine ⟨a, rfl, ?_⟩
  cases a with
  | true => exact h2 rfl σ G1 H1 s1.ok (m.mono s1.g) Q fun z G2 H2 s2 d2 => q z G2 H2 (s1.trans s2) d2
  | false => exact q _ G1 H1 s1 (.bl _)
theorem xe_or {a b : Bool} (h1 : XE K ta ρ (.bl a)) (h2 : a = false → XE K tb ρ (.bl b)) : XE K (tOrV ta tb) ρ (.bl (a || b)) := fun σ G H k m Q q => h1 σ G H k m _ fun x G1 H1 s1 d1 => by
  cases d1
  refine ⟨a, rfl, ?_⟩
  cases a with
  | true => exact q _ G1 H1 s1 (.bl _)
  | false => exact h2 rfl σ G1 H1 s1.ok (m.mono s1.g) Q fun z G2 H2 s2 d2 => q z G2 H2 (s1.trans s2) d2
theorem xe_not {a : Bool} (h1 : XE K ta ρ (.bl a)) : XE K (tNotV ta) ρ (.bl (!a)) := fun σ G H k m Q q => h1 σ G H k m _ fun x G1 H1 s1 d1 => by
  cases d1
  exact ⟨a, rfl, q _ G1 H1 s1 (.bl _)⟩
theorem xe_chain {r r' : R2} {a b : Bool} {g : D} (h1 : XE K ta ρ d) (h2 : XE K tb ρ e) (h3 : XR K r d e (.bl a)) (h4 : a = true → XE K tc ρ g) (h5 : a = true → XR K r' e g (.bl b)) : XE K (tChain r r' ta tb tc) ρ (.bl (a && b)) := fun σ G H k m Q q =>
  h1 σ G H k m _ fun x G1 H1 s1 d1 => h2 σ G1 H1 s1.ok (m.mono s1.g) _ fun y G2 H2 s2 d2 => h3 x y G2 H2 s2.ok (d1.mono s2.g) d2 _ fun z G3 H3 s3 d3 => by
    cases d3
    refine ⟨a, rfl, ?_⟩
    cases a with
    | true => exact h4 rfl σ G3 H3 s3.ok (((m.mono s1.g).mono s2.g).mono s3.g) _ fun u G4 H4 s4 d4 => h5 rfl y u G4 H4 s4.ok ((d2.mono s3.g).mono s4.g) d4 Q fun z G5 H5 s5 d5 => q z G5 H5 ((((s1.trans s2).trans s3).trans s4).trans s5) d5
    | false => exact q _ G3 H3 ((s1.trans s2).trans s3) (.bl _)
/-! built-ins -/
abbrev rLenC (K : PySem.W.Frag) : List V → Hp → VK → Prop := fun xs H Q => ∃ x n, xs = [x] ∧ LenV K x H n ∧ Q (.int n) H
end
end SG

namespace SG
open PySem L2
section
variable {K : PySem.W.Frag} {ρ ρ' ρ1 ρ2 : DEnv} {ta tb tc te : TE} {d e f : D} {r : R2} {i j : Int}
/-! ### built-ins -/
theorem xc_lenT {ds : List D} : XC K (rLenC K) [.tup ds] (.int ds.length) := fun xs G H k h Q q => by
  cases h with
  | cons h l =>
    cases l
    cases h with
    | tup s l =>
      refine ⟨_, _, rfl, .inr ⟨_, same_tup k s, rfl⟩, ?_⟩
      rw [l.length]
      exact q _ G H (.refl k) (.int _)
theorem xc_lenL {ds : List D} : XC K (rLenC K) [.lst ds] (.int ds.length) := fun xs G H k h Q q => by
  cases h with
  | cons h l =>
    cases l
    cases h with
    | lst s l =>
      refine ⟨_, _, rfl, .inl ⟨_, SqL.of (k _ _ s), rfl⟩, ?_⟩
      rw [l.length]
      exact q _ G H (.refl k) (.int _)
theorem xc_lenQ {ds : List D} : XC K (rLenC K) [.sq ds] (.int ds.length) := fun xs G H k h Q q => by
  cases h with
  | cons h l =>
    cases l
    cases h with
    | sq s l =>
      refine ⟨_, _, rfl, .inl ⟨_, Same.seq k s, rfl⟩, ?_⟩
      rw [l.length]
      exact q _ G H (.refl k) (.int _)
theorem xc_lenS {z : Str} (hz : z.length ≤ 100000) : XC K (rLenC K) [.str z] (.int z.length) := fun xs G H k h Q q => by
  cases h with
  | cons h l =>
    cases l
    cases h
    exact ⟨_, z.length, rfl, ⟨Nat.le_trans hz (by decide), rfl⟩, q _ G H (.refl k) (.int _)⟩
abbrev rInt1 : List V → Hp → VK → Prop := fun xs H Q => (∃ i, xs = [.int i] ∧ Q (.int i) H) ∨ ∃ k, xs = [.bl k] ∧ Q (.int (if k then 1 else 0)) H
theorem xc_int : XC K rInt1 [.int i] (.int i) := fun xs G H k h Q q => by
  cases h with
  | cons h l =>
    cases l
    cases h
    exact .inl ⟨_, rfl, q _ G H (.refl k) (.int _)⟩
abbrev rAbs : List V → Hp → VK → Prop := fun xs H Q => ∃ i, xs = [.int i] ∧ Q (.int (if i < 0 then -i else i)) H
theorem xc_abs : XC K rAbs [.int i] (.int (if i < 0 then -i else i)) := fun xs G H k h Q q => by
  cases h with
  | cons h l =>
    cases l
    cases h
    exact ⟨_, rfl, q _ G H (.refl k) (.int _)⟩
abbrev rListOf (K : PySem.W.Frag) : List V → Hp → VK → Prop := fun xs H Q => ∃ p ys, xs = [.ref p] ∧ (SqL K H p ys ∨ SqT K H p ys) ∧ ∀ l, H l = none → Q (.ref l) (upd H l (.lst ys))
theorem xc_listT {ds : List D} : XC K (rListOf K) [.tup ds] (.lst ds) := fun xs G H k h Q q => by
  cases h with
  | cons h l =>
    cases l
    cases h with
    | tup s l => exact ⟨_, _, rfl, .inr (same_tup k s), fun p hp => q _ _ _ (Gr.new k hp _) (Den.new_lst l (Same.free k hp))⟩
abbrev rTupOf (K : PySem.W.Frag) : List V → Hp → VK → Prop := fun xs H Q => ∃ p ys, xs = [.ref p] ∧ ((SqL K H p ys ∧ ∀ l, H l = none → Q (.ref l) (upd H l (.tup ys))) ∨ (SqT K H p ys ∧ Q (.ref p) H))
theorem xc_tupL {ds : List D} : XC K (rTupOf K) [.lst ds] (.tup ds) := fun xs G H k h Q q => by
  cases h with
  | cons h l =>
    cases l
    cases h with
    | lst s l => exact ⟨_, _, rfl, .inl ⟨SqL.of (k _ _ s), fun p hp => q _ _ _ (Gr.new k hp _) (Den.new_tup l (Same.free k hp))⟩⟩
theorem xc_sum {ns : List Int} : XC K (rSum K) [.lst (ns.map .int)] (.int ns.sum) := fun xs G H k h Q q => by
  cases h with
  | cons h l =>
    cases l
    cases h with
    | lst s l =>
      have e := l.ints_inv
      subst e
      exact ⟨_, ns, rfl, SqL.of (k _ _ s), q _ G H (.refl k) (.int _)⟩
theorem xc_all {ns : List Bool} : XC K (rAll K) [.lst (ns.map .bl)] (.bl (ns.all id)) := fun xs G H k h Q q => by
  cases h with
  | cons h l =>
    cases l
    cases h with
    | lst s l =>
      have e := l.bls_inv
      subst e
      exact ⟨_, ns, rfl, SqL.of (k _ _ s), q _ G H (.refl k) (.bl _)⟩
theorem xe_bits (h : XE K te ρ (.int i)) : XE K (tBits te) ρ (.int (Builtin.Int.intBits i : Nat)) := fun σ G H k m Q q => h σ G H k m _ fun x G1 H1 s1 d1 => by
  cases d1
  exact ⟨i, rfl, q _ G1 H1 s1 (.int _)⟩
abbrev rSIndex : V → List V → Hp → VK → Prop := fun x xs H Q => ∃ a b i rest, x = .str a ∧ xs = [.str b] ∧ Builtin.Str.occurrences a b 0 a.length 1 = i :: rest ∧ Q (.int (i : Nat)) H
theorem xe_sindex {a b : Str} {n : Nat} {rest : List Nat} (h : XE K te ρ (.str a)) (h2 : XE K tb ρ (.str b)) (ho : Builtin.Str.occurrences a b 0 a.length 1 = n :: rest) : XE K (tBM K "str" rSIndex te (tCons tb tNil)) ρ (.int (n : Int)) := fun σ G H k m Q q =>
  h σ G H k m _ fun x G1 H1 s1 d1 => by
    cases d1
    refine ⟨rfl, ?_⟩
    refine xa_cons h2 xa_nil σ G1 H1 s1.ok (m.mono s1.g) _ fun xs G2 H2 s2 d2 => ?_
    cases d2 with
    | cons d2 l =>
      cases l
      cases d2
      exact ⟨a, b, n, rest, rfl, rfl, ho, q _ G2 H2 (s1.trans s2) (.int _)⟩
/-! slices of tuples -/
theorem xo_none : XO K tNoPart ρ none := fun σ G H k m Q q => q G H (.refl k)
theorem xo_some (h : XE K te ρ (.int i)) : XO K (tPart te) ρ (some i) := fun σ G H k m Q q => h σ G H k m _ fun x G1 H1 s1 d1 => by
  cases d1
  exact ⟨i, rfl, q G1 H1 s1⟩
theorem xe_slT {ds : List D} {tl th : TO} {lo hi : Option Int} (h : XE K te ρ (.tup ds)) (h1 : XO K tl ρ lo) (h2 : XO K th ρ hi) :
    XE K (tSl (rSlA K) te tl th) ρ (.tup ((ds.drop (HT.sIx ds.length 0 lo)).take (HT.sIx ds.length ds.length hi - HT.sIx ds.length 0 lo))) := fun σ G H k m Q q =>
  h σ G H k m _ fun x G1 H1 s1 d1 => h1 σ G1 H1 s1.ok (m.mono s1.g) _ fun G2 H2 s2 => h2 σ G2 H2 s2.ok ((m.mono s1.g).mono s2.g) _ fun G3 H3 s3 => by
    have d3 := (d1.mono s2.g).mono s3.g
    cases d3 with
    | tup s l =>
      refine ⟨_, _, rfl, same_tup s3.ok s, fun c => ?_, fun c p hp => ?_⟩
      · rw [l.length] at c
        rw [c.1, c.2] at q
        have e : (ds.drop 0).take (ds.length - 0) = ds := by simp
        rw [e] at q
        exact q _ G3 H3 ((s1.trans s2).trans s3) (.tup s l)
      · refine q _ _ _ (((s1.trans s2).trans s3).trans (Gr.new s3.ok hp _)) ?_
        have g := (l.drop (HT.sIx ds.length 0 lo)).take (HT.sIx ds.length ds.length hi - HT.sIx ds.length 0 lo)
        unfold cutV
        rw [l.length]
        exact Den.new_tup g (Same.free s3.ok hp)

/-! ### statements -/
inductive Out where
  | nx (ρ : DEnv) | rt (d : D)
def Fits (K : PySem.W.Frag) (G H : Hp) (E : Ends) : Out → Prop
  | .nx ρ => ∀ σ' G' H', Gr G H G' H' → Em K G' σ' ρ → E.nx σ' H'
  | .rt d => ∀ r G' H', Gr G H G' H' → Den K G' r d → E.rt r H'
def XS (K : PySem.W.Frag) (t : TS) (ρ : DEnv) (o : Out) : Prop := ∀ (σ : L2.St) (G H : Hp) (E : Ends), Same G H → Em K G σ ρ → Fits K G H E o → t E σ H
theorem Fits.mono {G H G' H' : Hp} {E : Ends} {o : Out} (s : Gr G H G' H') (h : Fits K G H E o) : Fits K G' H' E o := by
  cases o with
  | nx ρ => exact fun σ' G2 H2 s2 m => h σ' G2 H2 (s.trans s2) m
  | rt d => exact fun r G2 H2 s2 m => h r G2 H2 (s.trans s2) m
def XG (K : PySem.W.Frag) (g : TG) (d : D) (ρ ρ2 : DEnv) : Prop := ∀ (v : V) (σ : L2.St) (G H : Hp) (Q : L2.St → Hp → Prop), Same G H → Em K G σ ρ → Den K G v d → (∀ σ', Em K G σ' ρ2 → Q σ' H) → g v σ H Q
def XGs (K : PySem.W.Frag) (g : TGs) (ds : List D) (ρ ρ2 : DEnv) : Prop := ∀ (vs : List V) (σ : L2.St) (G H : Hp) (Q : L2.St → Hp → Prop), Same G H → Em K G σ ρ → DenL K G vs ds → (∀ σ', Em K G σ' ρ2 → Q σ' H) → g vs σ H Q
theorem xg_name {n : Nat} : XG K (gName n) d ρ (ρ.set n (some d)) := fun v σ G H Q k m h q => q _ (m.set h)
theorem xgs_nil : XGs K gNil [] ρ ρ := fun vs σ G H Q k m h q => by
  cases h
  exact ⟨rfl, q σ m⟩
theorem xgs_cons {g : TG} {gs : TGs} {ds : List D} (h1 : XG K g d ρ ρ1) (h2 : XGs K gs ds ρ1 ρ2) : XGs K (gCons g gs) (d :: ds) ρ ρ2 := fun vs σ G H Q k m h q => by
  cases h with
  | cons h l => exact ⟨_, _, rfl, h1 _ σ G H _ k m h fun σ' m' => h2 _ σ' G H Q k m' l q⟩
theorem xg_tup {n : Nat} {gs : TGs} {ds : List D} (h : XGs K gs ds ρ ρ2) (hn : ds.length = n) : XG K (gTup K n gs) (.tup ds) ρ ρ2 := fun v σ G H Q k m hd q => by
  cases hd with
  | tup s l => exact ⟨_, _, rfl, same_tup k s, l.length.trans hn, h _ σ G H Q k m l q⟩
theorem xs_next : XS K tNext ρ (.nx ρ) := fun σ G H E k m q => q σ G H (.refl k) m
theorem xs_ret (h : XE K te ρ d) : XS K (tRet te) ρ (.rt d) := fun σ G H E k m q => h σ G H k m _ q
theorem xs_ret' (h : XE K te ρ d) (q : d = e) : XS K (tRet te) ρ (.rt e) := by rw [← q]; exact xs_ret h
theorem xs_asg {g : TG} (h : XE K te ρ d) (hg : XG K g d ρ ρ2) : XS K (tAsg te g) ρ (.nx ρ2) := fun σ G H E k m q =>
  h σ G H k m _ fun x G1 H1 s1 d1 => hg x σ G1 H1 E.nx s1.ok (m.mono s1.g) d1 fun σ' m' => q σ' G1 H1 s1 m'
theorem xs_set {n : Nat} (h : XE K te ρ d) : XS K (tAsg te (gName n)) ρ (.nx (ρ.set n (some d))) := xs_asg h xg_name
theorem xs_par {n l : Nat} {t : TA} (h : XA K t ρ [d, e]) : XS K (tPar n l t) ρ (.nx ((ρ.set n (some d)).set l (some e))) := fun σ G H E k m q =>
  h σ G H k m _ fun xs G1 H1 s1 d1 => by
    cases d1 with
    | cons h1 l =>
      cases l with
      | cons h2 l =>
        cases l
        exact ⟨_, _, rfl, q _ G1 H1 s1 (((m.mono s1.g).set h1).set h2)⟩
theorem xs_aug {n : Nat} {g : Int → Int → Int} (h0 : ρ[n]? = some (some (.int i))) (h : XE K te ρ (.int j)) : XS K (tAug n te (ipI g)) ρ (.nx (ρ.set n (some (.int (g i j))))) := fun σ G H E k m q => by
  obtain ⟨v, h1, h2⟩ := m.2 n _ h0
  cases h2
  refine ⟨_, h1, h σ G H k m _ fun x G1 H1 s1 d1 => ?_⟩
  cases d1
  exact ⟨i, j, rfl, rfl, q _ G1 H1 s1 ((m.mono s1.g).set (.int _))⟩
theorem xs_seq {t u : TS} {o : Out} (h1 : XS K t ρ (.nx ρ1)) (h2 : XS K u ρ1 o) : XS K (tSeq t u) ρ o := fun σ G H E k m q =>
  h1 σ G H { E with nx := u E } k m fun σ' G' H' s m' => h2 σ' G' H' E s.ok m' (q.mono s)
theorem xs_seqr {t u : TS} (h1 : XS K t ρ (.rt d)) : XS K (tSeq t u) ρ (.rt d) := fun σ G H E k m q => h1 σ G H { E with nx := u E } k m q
theorem xs_nseq {u : TS} {o : Out} (h : XS K u ρ o) : XS K (tSeq tNext u) ρ o := xs_seq xs_next h
theorem xs_if {c : TT} {t u : TS} {o : Out} {b : Bool} (h : XT K c ρ b) (h1 : b = true → XS K t ρ o) (h2 : b = false → XS K u ρ o) : XS K (tIfS c t u) ρ o := fun σ G H E k m q =>
  h σ G H k m _ fun G1 H1 s1 => by
    cases b with
    | true => exact h1 rfl σ G1 H1 E s1.ok (m.mono s1.g) (q.mono s1)
    | false => exact h2 rfl σ G1 H1 E s1.ok (m.mono s1.g) (q.mono s1)
theorem xs_ifs {c : TT} {t u z : TS} {o : Out} {b : Bool} (h : XT K c ρ b) (h1 : b = true → XS K (tSeq t z) ρ o) (h2 : b = false → XS K (tSeq u z) ρ o) : XS K (tSeq (tIfS c t u) z) ρ o := fun σ G H E k m q =>
  h σ G H k m _ fun G1 H1 s1 => by
    cases b with
    | true => exact h1 rfl σ G1 H1 E s1.ok (m.mono s1.g) (q.mono s1)
    | false => exact h2 rfl σ G1 H1 E s1.ok (m.mono s1.g) (q.mono s1)
theorem xs_assoc {a b z : TS} {o : Out} (h : XS K (tSeq a (tSeq b z)) ρ o) : XS K (tSeq (tSeq a b) z) ρ o := fun σ G H E k m q => h σ G H E k m q
theorem XS.sub {t : TS} {o : Out} (h : XS K t ρ' o) (s : Sub ρ ρ') : XS K t ρ o := fun σ G H E k m q => h σ G H E k (m.sub s) q
theorem XS.weak {t : TS} (h : XS K t ρ (.nx ρ1)) (s : Sub ρ1 ρ2) : XS K t ρ (.nx ρ2) := fun σ G H E k m q => h σ G H E k m fun σ' G' H' s' m' => q σ' G' H' s' (m'.sub s)
theorem XS.to {t : TS} (h : XS K t ρ (.rt d)) (q : d = e) : XS K t ρ (.rt e) := by rw [← q]; exact h
/-! while -/
theorem xs_while {c : TT} {t : TS} (W : Nat → DEnv → Prop) {m0 : Nat} (h0 : W m0 ρ)
    (hs : ∀ m ρ1, W m ρ1 → ∃ b, XT K c ρ1 b ∧ (b = true → ∃ m' ρ2, m' < m ∧ W m' ρ2 ∧ XS K t ρ1 (.nx ρ2)) ∧ (b = false → Sub ρ1 ρ')) : XS K (tWhile c t) ρ (.nx ρ') := fun σ G H E k m q => by
  refine ⟨fun k σ' H' => ∃ G', Gr G H G' H' ∧ ∃ ρ1, Em K G' σ' ρ1 ∧ W k ρ1, ⟨m0, G, .refl k, ρ, m, h0⟩, ?_⟩
  rintro k σ' H' ⟨G', s1, ρ1, m1, w1⟩
  obtain ⟨b, g1, g2, g3⟩ := hs k ρ1 w1
  refine g1 σ' G' H' s1.ok m1 _ fun G2 H2 s2 => ?_
  cases b with
  | true =>
    obtain ⟨m', ρ2, l, w2, g4⟩ := g2 rfl
    refine ⟨fun σ3 H3 => ∃ G3, Gr G H G3 H3 ∧ Em K G3 σ3 ρ2, fun σ3 H3 ⟨G3, s3, m3⟩ => ⟨m', l, G3, s3, ρ2, m3, w2⟩, ?_⟩
    exact g4 σ' G2 H2 _ s2.ok (m1.mono s2.g) fun σ4 G4 H4 s4 m4 => ⟨G4, (s1.trans s2).trans s4, m4⟩
  | false => exact q σ' G2 H2 (s1.trans s2) ((m1.mono s2.g).sub (g3 rfl))

/-! ### what is walked -/
structure IterD (K : PySem.W.Frag) (J : It) (ds : List D) (G0 H0 : Hp) : Prop where
  go : ∀ i H, i < ds.length → Same H0 H → J.go i H
  stop : ∀ H, Same H0 H → J.stop ds.length H
  yld : ∀ i G H x H', i < ds.length → Same G0 G → Same H0 H → Same G H → J.yld i H x H' → ∃ G', Gr G H G' H' ∧ ∃ d, ds[i]? = some d ∧ Den K G' x d
def XI (K : PySem.W.Frag) (wi : TI) (ρ : DEnv) (ds : List D) : Prop := ∀ (σ : L2.St) (G H : Hp), Same G H → Em K G σ ρ → ∀ R : It → Hp → Prop, (∀ J G' H', Gr G H G' H' → IterD K J ds G' H' → R J H') → wi σ H R
theorem XI.to {wi : TI} {ds es : List D} (h : XI K wi ρ ds) (e : ds = es) : XI K wi ρ es := by rw [← e]; exact h
theorem iterD_list {a : Addr} {xs : List V} {ds : List D} {G0 H0 : Hp} (s : SqL K H0 a xs) (l : DenL K G0 xs ds) : IterD K (Itl K a) ds G0 H0 := by
  have w := walk_list (K := K) (a := a) (xs := xs)
  rw [l.length] at w
  refine ⟨fun i H hi e => w.goes i H hi (Same.seq e s), fun H e => w.stops H (Same.seq e s), fun i G H x H' hi e0 e k y => ?_⟩
  obtain ⟨g1, g2⟩ := w.yields i H x H' hi (Same.seq e s) y
  subst g1
  obtain ⟨d, q1, q2⟩ := l.get' g2
  exact ⟨G, .refl k, d, q1, q2.mono e0⟩
theorem iterD_tup {a : Addr} {xs : List V} {ds : List D} {G0 H0 : Hp} (s : SqT K H0 a xs) (l : DenL K G0 xs ds) : IterD K (Itt K a) ds G0 H0 := by
  have w := walk_tup (K := K) (a := a) (xs := xs)
  rw [l.length] at w
  refine ⟨fun i H hi e => w.goes i H hi (same_tup e s), fun H e => w.stops H (same_tup e s), fun i G H x H' hi e0 e k y => ?_⟩
  obtain ⟨g1, g2⟩ := w.yields i H x H' hi (same_tup e s) y
  subst g1
  obtain ⟨d, q1, q2⟩ := l.get' g2
  exact ⟨G, .refl k, d, q1, q2.mono e0⟩
theorem xi_list {ds : List D} (h : XE K te ρ (.lst ds)) : XI K (iList K te) ρ ds := fun σ G H k m R q => h σ G H k m _ fun x G1 H1 s1 d1 => by
  cases d1 with
  | lst s l => exact ⟨_, rfl, ⟨_, SqL.of (s1.ok _ _ s)⟩, q _ G1 H1 s1 (iterD_list (SqL.of (s1.ok _ _ s)) l)⟩
theorem xi_tup {ds : List D} (h : XE K te ρ (.tup ds)) : XI K (iTup K te) ρ ds := fun σ G H k m R q => h σ G H k m _ fun x G1 H1 s1 d1 => by
  cases d1 with
  | tup s l => exact ⟨_, rfl, ⟨_, same_tup s1.ok s⟩, q _ G1 H1 s1 (iterD_tup (same_tup s1.ok s) l)⟩
def rngD (lo : Int) (n : Nat) : List D := (List.range n).map fun i : Nat => .int (lo + (i : Int))
theorem rngD_len {lo : Int} {n : Nat} : (rngD lo n).length = n := by unfold rngD; rw [List.length_map, List.length_range]
theorem rngD_get {lo : Int} {n i : Nat} {d : D} (h : (rngD lo n)[i]? = some d) : i < n ∧ d = .int (lo + (i : Int)) := by
  unfold rngD at h
  rw [List.getElem?_map] at h
  by_cases c : i < n
  · rw [List.getElem?_range c] at h
    cases h
    exact ⟨c, rfl⟩
  · rw [List.getElem?_eq_none (by simpa using c)] at h
    cases h
theorem iterD_rng {lo : Int} {n : Nat} {G0 H0 : Hp} : IterD K (Itr lo n) (rngD lo n) G0 H0 := by
  refine ⟨fun i H hi e => by rw [rngD_len] at hi; exact hi, fun H e => by rw [rngD_len]; exact Nat.le_refl _, fun i G H x H' hi e0 e k y => ?_⟩
  rw [rngD_len] at hi
  obtain ⟨g1, g2⟩ := y
  subst g1 g2
  refine ⟨G, .refl k, _, ?_, .int _⟩
  unfold rngD
  rw [List.getElem?_map, List.getElem?_range hi]
  rfl
theorem xi_range1 {t : TA} (h : XA K t ρ [.int j]) (h0 : -100000 ≤ j ∧ j ≤ 100000) : XI K (iRng1 t) ρ (rngD 0 j.toNat) := fun σ G H k m R q => h σ G H k m _ fun x G1 H1 s1 d1 => by
  cases d1 with
  | cons d1 l =>
    cases l
    cases d1
    exact ⟨j, rfl, by omega, by omega, q _ G1 H1 s1 iterD_rng⟩
theorem xi_range2 {t : TA} (h : XA K t ρ [.int i, .int j]) (h0 : -100000 ≤ i ∧ i ≤ 100000 ∧ -100000 ≤ j ∧ j ≤ 100000) : XI K (iRng2 t) ρ (rngD i (j - i).toNat) := fun σ G H k m R q => h σ G H k m _ fun x G1 H1 s1 d1 => by
  cases d1 with
  | cons d1 l =>
    cases l with
    | cons d2 l =>
      cases l
      cases d1
      cases d2
      exact ⟨i, j, rfl, by omega, q _ G1 H1 s1 iterD_rng⟩
theorem xi_str {z : Str} (h : XE K te ρ (.str z)) : XI K (iStr te) ρ (z.cps.toList.map fun c => .str ⟨#[c]⟩) := fun σ G H k m R q => h σ G H k m _ fun x G1 H1 s1 d1 => by
  cases d1
  refine ⟨z, rfl, q _ G1 H1 s1 ⟨fun i H hi e => ?_, fun H e => ?_, fun i G H x H' hi e0 e k y => ?_⟩⟩
  · rw [List.length_map] at hi
    show i < z.cps.size
    simpa using hi
  · rw [List.length_map]
    show z.cps.size ≤ _
    simp
  · obtain ⟨g1, c, g2, g3⟩ := y
    subst g1 g3
    refine ⟨G, .refl k, .str ⟨#[c]⟩, ?_, .str _⟩
    rw [List.getElem?_map]
    have e2 : z.cps.toList[i]? = some c := by simpa using g2
    rw [e2]
    rfl
theorem xi_zipT {t : TA} {xs ys : List D} (h : XA K t ρ [.tup xs, .tup ys]) (hl : xs.length = ys.length) : XI K (RZ.iZipA K t) ρ (List.zipWith (fun a b => .tup [a, b]) xs ys) := fun σ G H k m R q => h σ G H k m _ fun x G1 H1 s1 d1 => by
  cases d1 with
  | cons d1 l =>
    cases l with
    | cons d2 l =>
      cases l
      cases d1 with
      | tup g1 l1 =>
        cases d2 with
        | tup g2 l2 =>
          have e1 := l1.length
          have e2 := l2.length
          refine ⟨_, _, _, _, rfl, .inr ⟨same_tup s1.ok g1, same_tup s1.ok g2, q _ G1 H1 s1 ⟨fun i H hi e => ?_, fun H e => ?_, fun i G H x H' hi e0 e k y => ?_⟩⟩⟩
          · rw [List.length_zipWith] at hi
            exact ⟨_, _, _, _, same_tup e (same_tup s1.ok g1), same_tup e (same_tup s1.ok g2), List.getElem?_eq_getElem (by omega), List.getElem?_eq_getElem (by omega)⟩
          · rw [List.length_zipWith]
            exact ⟨_, _, same_tup e (same_tup s1.ok g1), same_tup e (same_tup s1.ok g2), .inl (by omega)⟩
          · obtain ⟨T, a, b, q1, q2, q3, q4, q5⟩ := y
            subst q1 q3
            obtain ⟨da, z1, z2⟩ := l1.get' (q4 _ (same_tup e (same_tup s1.ok g1)))
            obtain ⟨db, z3, z4⟩ := l2.get' (q5 _ (same_tup e (same_tup s1.ok g2)))
            refine ⟨_, Gr.new k q2 _, .tup [da, db], ?_, Den.new_tup (.cons (z2.mono e0) (.cons (z4.mono e0) .nil)) (Same.free k q2)⟩
            rw [List.getElem?_zipWith, z1, z3]
/-! ### for -/
theorem xs_for {wi : TI} {g : TG} {t : TS} {ds : List D} (hi : XI K wi ρ ds) (I : Nat → DEnv) (h0 : Sub ρ (I 0))
    (hs : ∀ (n : Nat) (d : D), ds[n]? = some d → ∃ ρ2 ρ3, XG K g d (I n) ρ2 ∧ XS K t ρ2 (.nx ρ3) ∧ Sub ρ3 (I (n + 1))) : XS K (tFor wi g t) ρ (.nx (I ds.length)) := fun σ G H E k m q =>
  hi σ G H k m _ fun J G1 H1 s1 it => by
    refine for_it (n := ds.length) (G := fun H' => ∃ G', Gr G1 H1 G' H') (Y := fun i H x H' => ∀ G, Same G1 G → Same G H → ∃ G', Gr G H G' H' ∧ ∃ d, ds[i]? = some d ∧ Den K G' x d)
      ⟨fun i H hi ⟨G', g⟩ => it.go i H hi g.h, fun H ⟨G', g⟩ => it.stop H g.h, fun i H x H' hi ⟨G', g⟩ y G2 e2 k2 => it.yld i G2 H x H' hi e2 g.h k2 y⟩
      (fun n σ' H' => ∃ G', Gr G1 H1 G' H' ∧ Em K G' σ' (I n)) ⟨G1, .refl s1.ok, (m.mono s1.g).sub h0⟩ (fun n σ' H' _ ⟨G', g, _⟩ => ⟨G', g⟩) (fun n x σ' H' H2 hn ⟨G', g, m'⟩ y => ?_) fun σ' H' ⟨G', g, m'⟩ => q σ' G' H' (s1.trans g) m'
    obtain ⟨G2, s2, d, e, hd⟩ := y G' g.g g.ok
    obtain ⟨ρ2, ρ3, g1, g2, g3⟩ := hs n d e
    exact g1 x σ' G2 H2 _ s2.ok (m'.mono s2.g) hd fun σ3 m3 => g2 σ3 G2 H2 _ s2.ok m3 fun σ4 G4 H4 s4 m4 => ⟨G4, (g.trans s2).trans s4, m4.sub g3⟩
/-- the k-th turn returns -/
theorem xs_for_rt {wi : TI} {g : TG} {t : TS} {ds : List D} (hi : XI K wi ρ ds) (I : Nat → DEnv) (l : Nat) (hk : l < ds.length) (h0 : Sub ρ (I 0))
    (hs : ∀ (n : Nat) (d : D), n < l → ds[n]? = some d → ∃ ρ2 ρ3, XG K g d (I n) ρ2 ∧ XS K t ρ2 (.nx ρ3) ∧ Sub ρ3 (I (n + 1)))
    (hr : ∀ d, ds[l]? = some d → ∃ ρ2, XG K g d (I l) ρ2 ∧ XS K t ρ2 (.rt e)) : XS K (tFor wi g t) ρ (.rt e) := fun σ G H E k m q =>
  hi σ G H k m _ fun J G1 H1 s1 it => by
    refine for_it (n := ds.length) (G := fun H' => ∃ G', Gr G1 H1 G' H') (Y := fun i H x H' => ∀ G, Same G1 G → Same G H → ∃ G', Gr G H G' H' ∧ ∃ d, ds[i]? = some d ∧ Den K G' x d)
      ⟨fun i H hi ⟨G', g⟩ => it.go i H hi g.h, fun H ⟨G', g⟩ => it.stop H g.h, fun i H x H' hi ⟨G', g⟩ y G2 e2 k2 => it.yld i G2 H x H' hi e2 g.h k2 y⟩
      (fun n σ' H' => n ≤ l ∧ ∃ G', Gr G1 H1 G' H' ∧ Em K G' σ' (I n)) ⟨Nat.zero_le _, G1, .refl s1.ok, (m.mono s1.g).sub h0⟩ (fun n σ' H' _ ⟨_, G', g, _⟩ => ⟨G', g⟩) (fun n x σ' H' H2 hn ⟨hl, G', g, m'⟩ y => ?_) fun σ' H' p => absurd p.1 (by omega)
    obtain ⟨G2, s2, d, e, hd⟩ := y G' g.g g.ok
    by_cases c : n < l
    · obtain ⟨ρ2, ρ3, g1, g2, g3⟩ := hs n d c e
      exact g1 x σ' G2 H2 _ s2.ok (m'.mono s2.g) hd fun σ3 m3 => g2 σ3 G2 H2 _ s2.ok m3 fun σ4 G4 H4 s4 m4 => ⟨c, G4, (g.trans s2).trans s4, m4.sub g3⟩
    · have en : n = l := by omega
      subst en
      obtain ⟨ρ2, g1, g2⟩ := hr d e
      exact g1 x σ' G2 H2 _ s2.ok (m'.mono s2.g) hd fun σ3 m3 => g2 σ3 G2 H2 _ s2.ok m3 fun r G4 H4 s4 m4 => q r G4 H4 (((s1.trans g).trans s2).trans s4) m4
/-! ### comprehensions -/
/-- the list at p, not in G1, holds what came out of the first n turns -/
def LcAt (K : PySem.W.Frag) (G1 H1 : Hp) (p : Addr) (out : Nat → List D) (n : Nat) (H' : Hp) : Prop :=
  (out n).length ≤ n ∧ ∃ G' vs, Gr G1 H1 G' H' ∧ G' p = none ∧ H' p = some (.lst vs) ∧ DenL K G' vs (out n)
theorem lc_turn {t : TT} {σ2 : L2.St} {ρ2 : DEnv} {out : Nat → List D} {n : Nat} {G1 H1 G' H' G2 H2 : Hp} {p : Addr} {b : Bool} {vs : List V} (hz : n ≤ 100000) (hp : H1 p = none) (hn : (out n).length ≤ n) (g : Gr G1 H1 G' H') (s2 : Gr G' H' G2 H2) (m : Em K G2 σ2 ρ2)
    (gp : G' p = none) (l1 : H' p = some (.lst vs)) (l2 : DenL K G' vs (out n)) (ht : XT K t ρ2 b) (h1 : b = true → ∃ y, out (n + 1) = out n ++ [y] ∧ XE K te ρ2 y) (h2 : b = false → out (n + 1) = out n) :
    t σ2 H2 fun b H3 => if b = true then te σ2 H3 fun y H4 => ∃ acc, H4 p = some (.lst acc) ∧ acc.length < sizeLine ∧ LcAt K G1 H1 p out (n + 1) (upd H4 p (.lst (acc ++ [y]))) else LcAt K G1 H1 p out (n + 1) H3 := by
  have hp' : ∀ {G3 H3 : Hp}, Gr G' H' G3 H3 → G3 p = none := fun s => (s.fr p _ l1).trans gp
  refine ht σ2 G2 H2 s2.ok m _ fun G3 H3 s3 => ?_
  cases b with
  | true =>
    obtain ⟨y, fy, xy⟩ := h1 rfl
    refine xy σ2 G3 H3 s3.ok (m.mono s3.g) _ fun r G4 H4 s4 dr => ?_
    have s24 : Gr G' H' G4 H4 := (s2.trans s3).trans s4
    have l4 : H4 p = some (.lst vs) := s24.h _ _ l1
    have lv : vs.length ≤ 100000 := by
      rw [l2.length]
      omega
    refine ⟨vs, l4, Nat.lt_of_le_of_lt lv (by decide), by rw [fy, List.length_append]; exact Nat.add_le_add_right hn 1, G4, vs ++ [r], ⟨fun a o q => ?_, (g.trans s24).g, fun a o q => ?_, (g.trans s24).fr⟩, hp' s24, upd_same, ?_⟩
    · rw [upd_ne (ne_of_none q hp)]
      exact (g.trans s24).h a o q
    · rw [upd_ne (ne_of_none q (hp' s24))]
      exact s4.ok a o q
    · rw [fy]
      exact (l2.mono s24.g).append (.cons dr .nil)
  | false =>
    have s23 : Gr G' H' G3 H3 := s2.trans s3
    have e := h2 rfl
    refine ⟨by rw [e]; omega, G3, vs, g.trans s23, hp' s23, s23.h _ _ l1, ?_⟩
    rw [e]
    exact l2.mono s23.g
theorem set3 {α : Type} (l : List α) (i : Nat) (a b c : α) : ((l.set i a).set i b).set i c = l.set i c := by rw [List.set_set, List.set_set]
theorem lc_done {out : Nat → List D} {n : Nat} {G H G1 H1 : Hp} {p : Addr} (s1 : Gr G H G1 H1) (hp : H1 p = none) {Q : VK} (q : ∀ r G' H', Gr G H G' H' → Den K G' r (.lst (out n)) → Q r H') {H' : Hp} (h : LcAt K G1 H1 p out n H') : Q (.ref p) H' := by
  obtain ⟨_, G', vs, g, gp, l1, l2⟩ := h
  refine q _ (upd G' p (.lst vs)) H' (s1.trans ⟨g.h, fun a o e => ?_, fun a o e => ?_, fun a o e => ?_⟩) (.lst upd_same (l2.mono (same_new gp _)))
  · rw [upd_ne (ne_of_none e (Same.free g.g gp))]
    exact g.g a o e
  · by_cases c : a = p
    · subst c
      rw [upd_same] at e
      rw [← e]
      exact l1
    · rw [upd_ne c] at e
      exact g.ok a o e
  · rw [upd_ne (ne_of_none e hp)]
    exact g.fr a o e
theorem lc_start {out : Nat → List D} {G1 H1 : Hp} {p : Addr} (h0 : out 0 = []) (k : Same G1 H1) (hp : H1 p = none) : LcAt K G1 H1 p out 0 (upd H1 p (.lst [])) :=
  ⟨by rw [h0]; exact Nat.le_refl _, G1, [], ⟨same_new hp _, Same.refl _, fun a o e => by rw [upd_ne (ne_of_none e (Same.free k hp))]; exact k a o e, fun _ _ _ => rfl⟩, Same.free k hp, upd_same, by rw [h0]; exact .nil⟩
/-- [e for x in .. if t], x a name -/
theorem xe_lc0 {wi : TI} {n : Nat} {tt : TT} {ds : List D} (out : Nat → List D) (h0 : out 0 = []) (hi : XI K wi ρ ds) (hz : ds.length ≤ 100000)
    (hs : ∀ (m : Nat) (d : D), ds[m]? = some d → ∃ b, XT K tt ((ρ.set n none).set n (some d)) b ∧ (b = true → ∃ y, out (m + 1) = out m ++ [y] ∧ XE K te ((ρ.set n none).set n (some d)) y) ∧ (b = false → out (m + 1) = out m)) : XE K (tLc wi (gName n) tt te [n]) ρ (.lst (out ds.length)) := fun σ G H k m Q q =>
  hi σ G H k m _ fun J G1 H1 s1 it p hp => by
    refine lc_it (n := ds.length) (G := fun H' => ∃ G', Gr G1 H1 G' H') (Y := fun i H x H' => ∀ G, Same G1 G → Same G H → ∃ G', Gr G H G' H' ∧ ∃ d, ds[i]? = some d ∧ Den K G' x d)
      ⟨fun i H hi ⟨G', g⟩ => it.go i H hi g.h, fun H ⟨G', g⟩ => it.stop H g.h, fun i H x H' hi ⟨G', g⟩ y G2 e2 k2 => it.yld i G2 H x H' hi e2 g.h k2 y⟩
      (LcAt K G1 H1 p out) (lc_start h0 s1.ok hp) (fun i H' _ ⟨_, G', _, g, _⟩ => ⟨G', g⟩) (fun i x H' H2 hn ⟨hl, G', vs, g, gp, l1, l2⟩ y => ?_) fun H' h => lc_done s1 hp q h
    obtain ⟨G2, s2, d, e, hd⟩ := y G' g.g g.ok
    obtain ⟨b, h1, h2, h3⟩ := hs i d e
    have m2 : Em K G2 ((wipe σ [n]).set n (some x)) ((ρ.set n none).set n (some d)) := ((((m.mono s1.g).mono g.g).mono s2.g).wipe [n]).set hd
    exact ⟨set3 σ n none (some x) none, lc_turn (Nat.le_trans (Nat.le_of_lt hn) hz) hp hl g s2 m2 gp l1 l2 h1 h2 h3⟩
theorem take_snoc {α : Type} {l : List α} {n : Nat} {d : α} (e : l[n]? = some d) : l.take (n + 1) = l.take n ++ [d] := by
  rw [List.take_succ, e]
  rfl
/-- filtered and mapped -/
theorem xe_lc {wi : TI} {n : Nat} {tt : TT} {ds : List D} (F : D → Option D) (hi : XI K wi ρ ds) (hz : ds.length ≤ 100000)
    (hs : ∀ (m : Nat) (d : D), ds[m]? = some d → ∃ b, XT K tt ((ρ.set n none).set n (some d)) b ∧ (b = true → ∃ y, F d = some y ∧ XE K te ((ρ.set n none).set n (some d)) y) ∧ (b = false → F d = none)) : XE K (tLc wi (gName n) tt te [n]) ρ (.lst (ds.filterMap F)) := by
  have h := xe_lc0 (K := K) (ρ := ρ) (te := te) (wi := wi) (n := n) (tt := tt) (fun m => (ds.take m).filterMap F) rfl hi hz fun m d e => by
    obtain ⟨b, h1, h2, h3⟩ := hs m d e
    refine ⟨b, h1, fun c => ?_, fun c => ?_⟩
    · obtain ⟨y, q1, q2⟩ := h2 c
      refine ⟨y, ?_, q2⟩
      rw [take_snoc e, List.filterMap_append]
      simp [q1]
    · rw [take_snoc e, List.filterMap_append]
      simp [h3 c]
  rw [List.take_length] at h
  exact h
/-- by places -/
theorem xe_lcx {wi : TI} {n : Nat} {ds : List D} (es : List D) (hl : es.length = ds.length) (hi : XI K wi ρ ds) (hz : ds.length ≤ 100000)
    (hs : ∀ (m : Nat) (d y : D), ds[m]? = some d → es[m]? = some y → XE K te ((ρ.set n none).set n (some d)) y) : XE K (tLc wi (gName n) tYes te [n]) ρ (.lst es) := by
  have h := xe_lc0 (K := K) (ρ := ρ) (te := te) (wi := wi) (n := n) (tt := tYes) (fun m => es.take m) rfl hi hz fun m d e => by
    have hm : m < es.length := by
      rw [hl]
      exact (List.getElem?_eq_some_iff.mp e).1
    have ee : es[m]? = some es[m] := List.getElem?_eq_getElem hm
    exact ⟨true, xt_yes, fun _ => ⟨es[m], take_snoc ee, hs m d _ e ee⟩, fun c => nomatch c⟩
  rw [← hl, List.take_length] at h
  exact h
theorem xe_lcm {wi : TI} {n : Nat} {ds : List D} (f : D → D) (hi : XI K wi ρ ds) (hz : ds.length ≤ 100000)
    (hs : ∀ (m : Nat) (d : D), ds[m]? = some d → XE K te ((ρ.set n none).set n (some d)) (f d)) : XE K (tLc wi (gName n) tYes te [n]) ρ (.lst (ds.map f)) :=
  xe_lcx (ds.map f) (List.length_map _) hi hz fun m d y e1 e2 => by
    rw [List.getElem?_map, e1] at e2
    cases e2
    exact hs m d e1
theorem set_pair {α : Type} (l : List α) (i j : Nat) (a b c : α) : (((((l.set j c).set i c).set i a).set j b).set j c).set i c = (l.set j c).set i c := by
  apply List.ext_getElem?
  intro n
  by_cases h1 : i = n
  · subst h1
    by_cases h : i < l.length
    · rw [List.getElem?_set_self (by simpa using h), List.getElem?_set_self (by simpa using h)]
    · rw [List.getElem?_eq_none (by simpa using h), List.getElem?_eq_none (by simpa using h)]
  · rw [List.getElem?_set_ne h1, List.getElem?_set_ne h1]
    by_cases h2 : j = n
    · subst h2
      by_cases h : j < l.length
      · rw [List.getElem?_set_self (by simpa using h), List.getElem?_set_self (by simpa using h)]
      · rw [List.getElem?_eq_none (by simpa using h), List.getElem?_eq_none (by simpa using h)]
    · rw [List.getElem?_set_ne h2, List.getElem?_set_ne h2, List.getElem?_set_ne h1, List.getElem?_set_ne h1]
/-- [e for x, y in zip(..)] -/
theorem xe_lc2 {wi : TI} {n l : Nat} {ds : List D} (es : List D) (hl : es.length = ds.length) (hi : XI K wi ρ ds) (hz : ds.length ≤ 100000)
    (hs : ∀ (m : Nat) (d y : D), ds[m]? = some d → es[m]? = some y → ∃ d1 d2, d = .tup [d1, d2] ∧ XE K te (((((ρ.set l none).set n none).set n (some d1))).set l (some d2)) y) :
    XE K (tLc wi (gTup K 2 (gCons (gName n) (gCons (gName l) gNil))) tYes te [n, l]) ρ (.lst es) := fun σ G H k m Q q =>
  hi σ G H k m _ fun J G1 H1 s1 it p hp => by
    refine lc_it (n := ds.length) (G := fun H' => ∃ G', Gr G1 H1 G' H') (Y := fun i H x H' => ∀ G, Same G1 G → Same G H → ∃ G', Gr G H G' H' ∧ ∃ d, ds[i]? = some d ∧ Den K G' x d)
      ⟨fun i H hi ⟨G', g⟩ => it.go i H hi g.h, fun H ⟨G', g⟩ => it.stop H g.h, fun i H x H' hi ⟨G', g⟩ y G2 e2 k2 => it.yld i G2 H x H' hi e2 g.h k2 y⟩
      (LcAt K G1 H1 p fun m => es.take m) (lc_start rfl s1.ok hp) (fun i H' _ ⟨_, G', _, g, _⟩ => ⟨G', g⟩) (fun i x H' H2 hn ⟨hl', G', vs, g, gp, l1, l2⟩ y => ?_) fun H' h => lc_done (out := fun m => es.take m) s1 hp (by
        show ∀ r G' H', Gr G H G' H' → Den K G' r (.lst (es.take ds.length)) → Q r H'
        rw [← hl, List.take_length]
        exact q) h
    obtain ⟨G2, s2, d, e, hd⟩ := y G' g.g g.ok
    have hm : i < es.length := by
      rw [hl]
      exact (List.getElem?_eq_some_iff.mp e).1
    have ee : es[i]? = some es[i] := List.getElem?_eq_getElem hm
    obtain ⟨d1, d2, ed, h2⟩ := hs i d _ e ee
    subst ed
    have m2 : Em K G2 (wipe σ [n, l]) ((ρ.set l none).set n none) := (((m.mono s1.g).mono g.g).mono s2.g).wipe [n, l]
    cases hd with
    | tup sd ld =>
      cases ld with
      | cons c1 ld =>
        cases ld with
        | cons c2 ld =>
          cases ld
          refine ⟨_, _, rfl, same_tup s2.ok sd, rfl, _, _, rfl, _, _, rfl, rfl, ?_⟩
          exact ⟨set_pair σ n l _ _ none, lc_turn (Nat.le_trans (Nat.le_of_lt hn) hz) hp hl' g s2 ((m2.set c1).set c2) gp l1 l2 xt_yes (fun _ => ⟨es[i], take_snoc ee, h2⟩) (fun c => nomatch c)⟩
theorem rngD_get0 {n i : Nat} {d : D} (h : (rngD 0 n)[i]? = some d) : i < n ∧ d = .int (i : Int) := by
  obtain ⟨a, b⟩ := rngD_get h
  rw [Int.zero_add] at b
  exact ⟨a, b⟩
end
end SG

namespace SG
open PySem L2
/-! ### defs on data -/
def spD (K : PySem.W.Frag) (R : List D → D → Prop) : Sp := fun vs H Q _ => ∃ (G : Hp) (ds : List D) (d : D), Same G H ∧ DenL K G vs ds ∧ R ds d ∧ ∀ r G' H', Gr G H G' H' → Den K G' r d → Q r H'
/-- the def x of the module keeps the promise sp -/
structure Pr (P : Program) (w : World) (K : PySem.W.Frag) (mg : Str → Option Value) (base : Heap) (k : Nat) (x : Str) (ps : List Str) (sp : Sp) : Prop where
  ex : ∃ f fd, mg x = some (.ref f) ∧ PySem.W.keepIn K (.ref f) = true ∧ Binds K fd ps [] ∧ FnOk P w K mg base CX0 k f fd ps sp
theorem Pr.mono {P : Program} {w : World} {K : PySem.W.Frag} {mg : Str → Option Value} {base : Heap} {j k : Nat} {x : Str} {ps : List Str} {sp : Sp} (h : Pr P w K mg base j x ps sp) (l : j ≤ k) : Pr P w K mg base k x ps sp := by
  obtain ⟨f, fd, a, b, c, d⟩ := h.ex
  exact ⟨f, fd, a, b, c, d.mono l⟩
/-- where the def stands -/
structure DefAt (K : PySem.W.Frag) (mg : Str → Option Value) (x : Str) (st : Stmt) : Prop where
  ex : ∃ f fd, mg x = some (.ref f) ∧ Fun K x x st f fd
section
variable {P : Program} {w : World} {K : PySem.W.Frag} {mg : Str → Option Value} {base : Heap}
theorem pr_mk {x : Str} {st : Stmt} {N ps : List Str} {k : Nat} {R : List D → D → Prop} (F : DefAt K mg x st) (S : FnScope N ps (defScope st))
    (hb : ∀ (kV doc pm : Value) (an : Option Addr) (cdv ct : Value) (us : List Value), us.length = ps.length → bindArgs (PySem.W.fnOf x x (defArgs st) (defBody st) (defScope st) .none kV doc pm an cdv ct) ⟨us, []⟩ = pure (ps.zip us))
    (hl : ∀ ds d, R ds d → ds.length = ps.length)
    (body : ∀ (f : Addr) (cdv : Value) (A : Around) (outer : List PySem.Env) (s : Shared) (H : Hp) (E : XK), Room k (A.deeper (PyProof.Rows.envOfC x (defScope st) s.heap.objs.size f cdv)) →
      ∃ t, PSs (cxOf CX0 P w K mg base N x (defScope st) f cdv A outer s H E).nox (defBody st) t ∧ ∀ ds d, R ds d → XS K t (startD N ds) (.rt d)) : Pr P w K mg base (k + 1) x ps (spD K R) := by
  obtain ⟨f, fd, hm, F⟩ := F.ex
  refine ⟨f, fd, hm, F.kp, F.binds hb, F.ok S (fun vs H Q E h => ?_) fun cdv A outer s H vs Q E hr h => ?_⟩
  · obtain ⟨G, ds, d, _, l, r, _⟩ := h
    rw [l.length]
    exact hl ds d r
  · obtain ⟨G, ds, d, kk, l, r, q⟩ := h
    obtain ⟨t, ht, hx⟩ := body f cdv A outer s H E hr
    exact ⟨t, ht, hx ds d r _ G H _ kk (em_start l) q⟩
/-- a method, found at the class C, keeps sp -/
structure PrM (P : Program) (w : World) (K : PySem.W.Frag) (mg : Str → Option Value) (base : Heap) (k : Nat) (C : Addr) (m : Str) (ps : List Str) (sp : Sp) : Prop where
  ex : ∃ f fd, Meth K C m f ∧ Binds K fd ps [] ∧ FnOk P w K mg base CX0 k f fd ps sp
/-- where the method stands -/
structure MethAt (K : PySem.W.Frag) (C : Addr) (x q : Str) (st : Stmt) : Prop where
  ex : ∃ f fd, Meth K C x f ∧ Fun K x q st f fd
theorem prM_mk {C : Addr} {x q : Str} {st : Stmt} {N ps : List Str} {k : Nat} {R : List D → D → Prop} (F : MethAt K C x q st) (S : FnScope N ps (defScope st))
    (hb : ∀ (kV doc pm : Value) (an : Option Addr) (cdv ct : Value) (us : List Value), us.length = ps.length → bindArgs (PySem.W.fnOf x q (defArgs st) (defBody st) (defScope st) .none kV doc pm an cdv ct) ⟨us, []⟩ = pure (ps.zip us))
    (hl : ∀ ds d, R ds d → ds.length = ps.length)
    (body : ∀ (f : Addr) (cdv : Value) (A : Around) (outer : List PySem.Env) (s : Shared) (H : Hp) (E : XK), Room k (A.deeper (PyProof.Rows.envOfC q (defScope st) s.heap.objs.size f cdv)) →
      ∃ t, PSs (cxOf CX0 P w K mg base N q (defScope st) f cdv A outer s H E).nox (defBody st) t ∧ ∀ ds d, R ds d → XS K t (startD N ds) (.rt d)) : PrM P w K mg base (k + 1) C x ps (spD K R) := by
  obtain ⟨f, fd, hm, F⟩ := F.ex
  refine ⟨f, fd, hm, F.binds hb, F.ok S (fun vs H Q E h => ?_) fun cdv A outer s H vs Q E hr h => ?_⟩
  · obtain ⟨G, ds, d, _, l, r, _⟩ := h
    rw [l.length]
    exact hl ds d r
  · obtain ⟨G, ds, d, kk, l, r, q⟩ := h
    obtain ⟨t, ht, hx⟩ := body f cdv A outer s H E hr
    exact ⟨t, ht, hx ds d r _ G H _ kk (em_start l) q⟩
/-- no depth is left: nothing may be asked -/
theorem pr_none {x : Str} {st : Stmt} {ps : List Str} {R : List D → D → Prop} (F : DefAt K mg x st)
    (hb : ∀ (kV doc pm : Value) (an : Option Addr) (cdv ct : Value) (us : List Value), us.length = ps.length → bindArgs (PySem.W.fnOf x x (defArgs st) (defBody st) (defScope st) .none kV doc pm an cdv ct) ⟨us, []⟩ = pure (ps.zip us))
    (no : ∀ ds d, ¬ R ds d) (k : Nat) : Pr P w K mg base k x ps (spD K R) := by
  obtain ⟨f, fd, hm, F⟩ := F.ex
  have no' : ∀ vs H Q E, ¬ spD K R vs H Q E := fun vs H Q E ⟨_, ds, d, _, _, r, _⟩ => no ds d r
  exact ⟨f, fd, hm, F.kp, F.binds hb, fun vs H Q E h => absurd h (no' vs H Q E), fun A outer s H args us vs Q E _ _ _ _ h => absurd h (no' vs H Q E)⟩
end
section
variable {X : Cx} {K : PySem.W.Frag} {k : Nat} {x : Str} {ps : List Str} {sp : Sp} {p pos : Pos} {e o a b c : Expr} {es : List Expr} {t : TA} {ta tb tc te : TE}
theorem pe_callD (F : Pr X.prog X.w X.K X.mg X.base k x ps sp) (hr : Room k X.A) (hg : Gl X x) (ha : PA X (e :: es) t) (hdb : (x == ("__debug__" : Str)) = false := by decide +kernel)
    (he : starEach (e :: es) X.env = (false, eval e X.env) :: starEach es X.env := by rfl) (hpl : (backTo pos (starEach es X.env)).any (·.1) = false := by rfl) : PE X (.Call (.Name x p) (e :: es) [] pos) (tCall sp [] E0 t) := by
  obtain ⟨f, fd, h1, h2, h3, h4⟩ := F.ex
  exact pe_call h4 hr hg h1 h2 h3 .nil pass0 ha hdb he hpl
theorem pe_gI {i : Int} (hm : ∃ u, X.mg x = some (.int i u)) (hg : Gl X x) (hd : (x == ("__debug__" : Str)) = false := by decide +kernel) : PE X (.Name x pos) (tC (.int i)) := by
  obtain ⟨u, h⟩ := hm
  exact pe_glob hg h ⟨u, rfl⟩ hd
theorem pe_gS {i : Str} (hm : ∃ u, X.mg x = some (.str i u)) (hg : Gl X x) (hd : (x == ("__debug__" : Str)) = false := by decide +kernel) : PE X (.Name x pos) (tC (.str i)) := by
  obtain ⟨u, h⟩ := hm
  exact pe_glob hg h ⟨u, rfl⟩ hd
theorem pe_gR {i : Addr} (hm : X.mg x = some (.ref i)) (hg : Gl X x) (hd : (x == ("__debug__" : Str)) = false := by decide +kernel) : PE X (.Name x pos) (tC (.ref i)) := pe_glob hg hm rfl hd
theorem op_addK (h : X.K = K) : OpR X (binaryOp .Add) (rAddU K) := by subst h; exact op_addU
theorem ix_K (h : X.K = K) : IxR X (rIx K) := by subst h; exact ix_seq
theorem call_lenK (h : X.K = K) : CallR X (.builtin "len") (rLenC K) := by subst h; exact call_len
theorem call_listK (h : X.K = K) : CallR X (.type "list") (rListOf K) := by subst h; exact call_list_of
theorem call_tupK (h : X.K = K) : CallR X (.type "tuple") (rTupOf K) := by subst h; exact call_tuple_of
theorem call_sumK (h : X.K = K) (hc : X.calm = true) : CallR X (.builtin "sum") (rSum K) := by subst h; exact cr_sum hc
theorem call_allK (h : X.K = K) (hc : X.calm = true) : CallR X (.builtin "all") (rAll K) := by subst h; exact cr_all hc
theorem sl_K (h : X.K = K) : SlR X (rSlA K) := by subst h; exact sl_tupA
theorem pi_listK {tg l : Expr} {tl : TE} (h : X.K = K) (hl : PE X l tl) : PI X tg l (iList K tl) := by subst h; exact pi_list hl
theorem pi_tupK {tg l : Expr} {tl : TE} (h : X.K = K) (hl : PE X l tl) : PI X tg l (iTup K tl) := by subst h; exact pi_tup hl
theorem pi_zipK {tpos : Pos} {elts : List Expr} {kk : Nat} {e2 : Expr} (h : X.K = K) (hg : Gl X "zip") (hm : X.mg "zip" = none) (ha : PA X [e, e2] t)
    (hs : starEach [e, e2] X.env = (false, eval e X.env) :: starEach [e2] X.env := by rfl) (hpl : (backTo pos (starEach [e2] X.env)).any (·.1) = false := by rfl) :
    PI X (.Tuple elts kk tpos) (.Call (.Name "zip" p) [e, e2] [] pos) (RZ.iZipA K t) := by subst h; exact RZ.pi_zipA hg hm ha hs hpl
theorem pg_tupK {n : Nat} {ts : List Expr} {kk : Nat} {tpos : Pos} {g : TGs} (h : X.K = K) (hg : PG X (.Tuple ts kk tpos) (gTup X.K n g)) : PG X (.Tuple ts kk tpos) (gTup K n g) := by subst h; exact hg
theorem pe_fldK {f : Str} (h : X.K = K) (he : PE X e ta) (hb : attributeBase e f X.env (eval e X.env) = eval e X.env := by rfl) : PE X (.Attribute e f pos) (tFld K ta f) := by subst h; exact pe_fld he hb
theorem pe_sindexK {apos cpos : Pos} (h : X.K = K) (hb : PE X (.Call (.Attribute o "index" apos) (e :: es) [] cpos) (tBM X.K "str" rSIndex te t)) : PE X (.Call (.Attribute o "index" apos) (e :: es) [] cpos) (tBM K "str" rSIndex te t) := by subst h; exact hb
end
section
variable {X : Cx} {k : Nat} {C : Addr} {m : Str} {ps : List Str} {sp : Sp} {apos pos : Pos} {e o : Expr} {es : List Expr} {t : TA} {ta : TE}
theorem pe_methD {pl : Sem Bool} (he : PE X o ta) (c : Cls X.K C) (F : PrM X.prog X.w X.K X.mg X.base k C m ps sp) (hr : Room k X.A) (ha : PA X (e :: es) t)
    (hst : starEach (e :: es) X.env = (false, eval e X.env) :: starEach es X.env := by rfl) (hpl : (backTo pos (starEach es X.env)).any (·.1) = false := by rfl)
    (ht : eval (.Call (.Attribute o m apos) (e :: es) [] pos) X.env = (do
      let ov ← eval o X.env
      standAt apos.atName
      let (f, first) ← holding [ov] (getMethod ov m pl)
      callWith pos f first (backTo pos (starEach (e :: es) X.env)) (backToKw pos (keywordEach [] X.env))) := by rfl) :
    PE X (.Call (.Attribute o m apos) (e :: es) [] pos) (tMeth C m sp [] E0 ta t) := by
  obtain ⟨f, fd, h1, h2, h3⟩ := F.ex
  exact pe_meth he c h1 h3 hr h2 .nil pass0 ha hst hpl ht
end
section
variable {K : PySem.W.Frag} {ρ : DEnv} {d : D} {ta : TE} {t : TA} {E : XK} {ds : List D} {R : List D → D → Prop}
theorem xe_call (h : XA K t ρ ds) (r : R ds d) : XE K (tCall (spD K R) [] E t) ρ d := fun σ G H k m Q q => h σ G H k m _ fun xs G1 H1 s1 d1 => by
  show spD K R (xs ++ []) H1 Q E
  rw [List.append_nil]
  exact ⟨G1, ds, d, s1.ok, d1, r, fun z G' H' s2 d2 => q z G' H' (s1.trans s2) d2⟩
/-- o.m(..), o a sealer -/
theorem xe_meth {C : Addr} {m : Str} {p : Int} (h0 : XE K ta ρ (.obj C p)) (h : XA K t ρ ds) (r : R (.obj C p :: ds) d) (hm : (m == ("_modulus" : Str)) = false) : XE K (tMeth C m (spD K R) [] E ta t) ρ d := fun σ G H k me Q q => h0 σ G H k me _ fun x G0 H0 s0 d0 => by
  cases d0 with
  | obj ho =>
    refine ⟨_, _, _, rfl, s0.ok _ _ ho, ?_, h σ G0 H0 s0.ok (me.mono s0.g) _ fun xs G1 H1 s1 d1 => ?_⟩
    · show (match m == "_modulus" with | true => _ | false => none) = none
      rw [hm]
    · rw [List.append_nil]
      exact ⟨G1, _, d, s1.ok, .cons (.obj (s1.g _ _ ho)) d1, r, fun z G' H' s2 d2 => q z G' H' ((s0.trans s1).trans s2) d2⟩
theorem xe_fld {C : Addr} {p : Int} (h0 : XE K ta ρ (.obj C p)) (hc : Cls K C) (hn : NoAttr K C "_modulus") : XE K (tFld K ta "_modulus") ρ (.int p) := fun σ G H k me Q q => h0 σ G H k me _ fun x G0 H0 s0 d0 => by
  cases d0 with
  | obj ho => exact ⟨_, C, _, _, .int p, rfl, s0.ok _ _ ho, hc, hn, rfl, q _ G0 H0 s0 (.int p)⟩
theorem XR.at {r : R2} {a b : Int} {f : D} (h : XR K r d (.int a) f) (e : a = b) : XR K r d (.int b) f := by rw [← e]; exact h
theorem xr_ixTi {i : Int} {ds : List D} (h0 : 0 ≤ i) (h : ds[i.toNat]? = some d) : XR K (rIx K) (.tup ds) (.int i) d := by
  have e : i = ((i.toNat : Nat) : Int) := by omega
  rw [e]
  exact xr_ixT h
theorem xr_ixLi {i : Int} {ds : List D} (h0 : 0 ≤ i) (h : ds[i.toNat]? = some d) : XR K (rIx K) (.lst ds) (.int i) d := by
  have e : i = ((i.toNat : Nat) : Int) := by omega
  rw [e]
  exact xr_ixL h
theorem xe_gtup {a : Addr} {vs : List V} {ds : List D} (h : ∀ H, SqT K H a vs) (hd : ∀ H, DenL K H vs ds) : XE K (tC (.ref a)) ρ (.tup ds) := xe_c fun H => .tup (h H) (hd H)
end
end SG

namespace SG
open PySem L2
/-! ### the text by places -/
def top (i : Nat) : Stmt := PySem.Challenge.pw_sumgrove_k07_answers_of_whole_trees.main.body.getD i (.Pass ⟨0, 0, 0, 0⟩)
def alph : List Nat := [48, 49, 50, 51, 52, 53, 54, 55, 56, 57, 95, 97, 98, 99, 100, 101, 102, 103, 104, 105, 106, 107, 108, 109, 110, 111, 112, 113, 114, 115, 116, 117, 118, 119, 120, 121, 122]
def alphS : Str := "0123456789_abcdefghijklmnopqrstuvwxyz"
theorem alphS_eq : alphS = ⟨alph.toArray⟩ := by decide +kernel
/-- what the top has left -/
structure Txt (K : PySem.W.Frag) (mg : Str → Option Value) (C eRow : Addr) : Prop where
  len : mg "len" = none
  int : mg "int" = none
  abs : mg "abs" = none
  list : mg "list" = none
  tuple : mg "tuple" = none
  sum : mg "sum" = none
  all : mg "all" = none
  sorted : mg "sorted" = none
  range : mg "range" = none
  zip : mg "zip" = none
  g_ALPHABET : ∃ u, mg "ALPHABET" = some (.str alphS u)
  g_NAME_LIMIT : ∃ u, mg "NAME_LIMIT" = some (.int 8 u)
  g_PLACES : ∃ u, mg "PLACES" = some (.int 48 u)
  g_KIND_LIMIT : ∃ u, mg "KIND_LIMIT" = some (.int 3 u)
  g_AMOUNT_LIMIT : ∃ u, mg "AMOUNT_LIMIT" = some (.int 1000000000000000 u)
  g_NOTE_LIMIT : ∃ u, mg "NOTE_LIMIT" = some (.int 12 u)
  g_NOTE_GREATEST : ∃ u, mg "NOTE_GREATEST" = some (.int 2305843009213693952 u)
  g_LEAST_MODULUS : ∃ u, mg "LEAST_MODULUS" = some (.int 3 u)
  g_GREATEST_MODULUS : ∃ u, mg "GREATEST_MODULUS" = some (.int 2305843009213693951 u)
  g_EMPTY_ROW : mg "EMPTY_ROW" = some (.ref eRow)
  eRow : ∀ H, SqT K H eRow [.int 2]
  cl : Cls K C
  nM : NoAttr K C "_modulus"
/-! ### names -/
structure Nm (s : Str) : Prop where
  pos : 1 ≤ s.cps.toList.length
  len : s.cps.toList.length ≤ 8
  mem : ∀ c ∈ s.cps.toList, c ∈ alph
def dig (l : List Nat) (k : Nat) : Nat := match l[k]? with
  | some c => alph.idxOf c + 1
  | none => 0
def numTo (l : List Nat) : Nat → Nat
  | 0 => 0
  | k + 1 => numTo l k * 64 + dig l k
def num (s : Str) : Int := (numTo s.cps.toList 8 : Nat)
theorem idx_alph : ∀ c ∈ alph, Builtin.Str.occurrences alphS ⟨#[c]⟩ 0 alphS.length 1 = [alph.idxOf c] := by decide +kernel
theorem Nm.lenS {s : Str} (h : Nm s) : s.length ≤ 8 := by
  have e : s.length = s.cps.toList.length := by simp [Str.length]
  rw [e]
  exact h.len
theorem Nm.at {s : Str} (h : Nm s) {n : Nat} {c : Nat} (e : s.cps.toList[n]? = some c) : c ∈ alph := h.mem c (List.mem_of_getElem? e)
theorem numTo_succ (l : List Nat) (k : Nat) : ((numTo l (k + 1) : Nat) : Int) = (numTo l k : Int) * 64 + (dig l k : Int) := by
  show ((numTo l k * 64 + dig l k : Nat) : Int) = _
  omega
def bitAt (s : Str) (k : Int) : Int := (num s / 2 ^ (48 - 1 - k).toNat).fmod 2
def partg (a b : Str) : Option Int := if Builtin.bitXor (num a) (num b) = 0 then none else some (48 - (Builtin.Int.intBits (Builtin.bitXor (num a) (num b)) : Nat))
def encOI : Option Int → D
  | none => .non
  | some i => .int i
def encOS : Option Str → D
  | none => .non
  | some i => .str i
/-! ### leaves, trees, summaries -/
structure Lf where
  nm : Str
  ws : List Int
  ns : List Int
structure LfOk (q : Nat) (l : Lf) : Prop where
  nm : Nm l.nm
  wl : l.ws.length = q
  q1 : 1 ≤ q
  q3 : q ≤ 3
  wv : ∀ v ∈ l.ws, 0 ≤ v ∧ v ≤ 1000000000000000
  nl : l.ns.length ≤ 12
  nv : ∀ v ∈ l.ns, 0 ≤ v ∧ v ≤ 2305843009213693952
@[reducible] def encI (l : List Int) : D := .tup (l.map .int)
@[reducible] def encL (l : Lf) : D := .tup [.str "leaf", .str l.nm, encI l.ws, encI l.ns]
inductive T where
  | lf (l : Lf)
  | br (a b : T)
def encT : T → D
  | .lf l => encL l
  | .br a b => .tup [.str "branch", encT a, encT b]
def encTo : Option T → D
  | none => .non
  | some t => encT t
def T.dep : T → Nat
  | .lf _ => 1
  | .br a b => max a.dep b.dep + 1
def T.lvs : T → List Lf
  | .lf l => [l]
  | .br a b => a.lvs ++ b.lvs
def TOk (q : Nat) (t : T) : Prop := ∀ l ∈ t.lvs, LfOk q l
theorem TOk.lf {q : Nat} {l : Lf} (h : TOk q (.lf l)) : LfOk q l := h l (by simp [T.lvs])
theorem TOk.l {q : Nat} {a b : T} (h : TOk q (.br a b)) : TOk q a := fun l m => h l (by simp [T.lvs, m])
theorem TOk.r {q : Nat} {a b : T} (h : TOk q (.br a b)) : TOk q b := fun l m => h l (by simp [T.lvs, m])
def least : T → Str
  | .lf l => l.nm
  | .br a _ => least a
def great : T → Str
  | .lf l => l.nm
  | .br _ b => great b
structure Sm where
  sl : Int
  cnt : Int
  sums : List Int
  lo : Str
  hi : Str
@[reducible] def encS (s : Sm) : D := .tup [.int s.sl, .int s.cnt, encI s.sums, .str s.lo, .str s.hi]
structure SmOk (q : Nat) (s : Sm) : Prop where
  lo : Nm s.lo
  hi : Nm s.hi
  ql : s.sums.length = q
  q3 : q ≤ 3
def lfRow (l : Lf) : List Int := ([0, num l.nm, ((l.ws.length : Nat) : Int)] : List Int) ++ l.ws ++ l.ns
def smNums (s : Sm) : List Int := [s.sl, s.cnt] ++ s.sums ++ [num s.lo, num s.hi]
def brRow (a b : Sm) : List Int := ([1, ((a.sums.length : Nat) : Int)] : List Int) ++ smNums a ++ smNums b
def topRow (s : Sm) : List Int := ([3, ((s.sums.length : Nat) : Int)] : List Int) ++ smNums s
def slStep (p v n : Int) : Int := (v * v * v + 5 * v + 3 * n + 1).fmod p
def sealOf (p : Int) (row : List Int) : Int := (row ++ [(row.length : Int)]).foldl (slStep p) 1
def brSm (p : Int) (a b : Sm) : Sm := ⟨sealOf p (brRow a b), a.cnt + b.cnt, List.zipWith (· + ·) a.sums b.sums, a.lo, b.hi⟩
def summ (p : Int) : T → Sm
  | .lf l => ⟨sealOf p (lfRow l), 1, l.ws, l.nm, l.nm⟩
  | .br a b => brSm p (summ p a) (summ p b)
def rootOf (p : Int) : Option T → Int
  | none => sealOf p [2]
  | some t => sealOf p (topRow (summ p t))
theorem summ_lo (p : Int) : ∀ t : T, (summ p t).lo = least t
  | .lf _ => rfl
  | .br a _ => summ_lo p a
theorem summ_hi (p : Int) : ∀ t : T, (summ p t).hi = great t
  | .lf _ => rfl
  | .br _ b => summ_hi p b
theorem least_nm {q : Nat} {t : T} (h : TOk q t) : Nm (least t) := by
  induction t with
  | lf l => exact h.lf.nm
  | br a b iha _ => exact iha h.l
theorem great_nm {q : Nat} {t : T} (h : TOk q t) : Nm (great t) := by
  induction t with
  | lf l => exact h.lf.nm
  | br a b _ ihb => exact ihb h.r
theorem TOk.q13 {q : Nat} {t : T} (h : TOk q t) : 1 ≤ q ∧ q ≤ 3 := by
  induction t with
  | lf l => exact ⟨h.lf.q1, h.lf.q3⟩
  | br a b iha _ => exact iha h.l
theorem summ_len (p : Int) {q : Nat} {t : T} (h : TOk q t) : (summ p t).sums.length = q := by
  induction t with
  | lf l => exact h.lf.wl
  | br a b iha ihb =>
    show (List.zipWith (· + ·) (summ p a).sums (summ p b).sums).length = q
    rw [List.length_zipWith, iha h.l, ihb h.r, Nat.min_self]
theorem summ_ok (p : Int) {q : Nat} {t : T} (h : TOk q t) : SmOk q (summ p t) := ⟨by rw [summ_lo]; exact least_nm h, by rw [summ_hi]; exact great_nm h, summ_len p h, h.q13.2⟩
/-! ### forms -/
def isInside (a b : Str) (k : Int) (x : Int) : Bool := decide (bitAt a k = x) && (decide (bitAt b k = x) && match partg a b with
  | none => true
  | some j => decide (k < j))
def areSides (a b : T) : Bool := match partg (least a) (great b) with
  | none => false
  | some k => decide (bitAt (least a) k = 0) && (isInside (least a) (great a) k 0 && isInside (least b) (great b) k 1)
def hasOrder : T → Bool
  | .lf _ => true
  | .br a b => areSides a b && (hasOrder a && hasOrder b)
structure PM (p : Int) : Prop where
  lo : 3 ≤ p
  hi : p ≤ 2305843009213693951
def topRowO (p : Int) : Option T → List Int
  | none => [2]
  | some t => topRow (summ p t)
def OTOk (q n : Nat) (o : Option T) : Prop := ∀ t, o = some t → TOk q t ∧ t.dep ≤ n
theorem slStep_rng {p v n : Int} (h : PM p) : 0 ≤ slStep p v n ∧ slStep p v n < p := by
  unfold slStep
  have h0 : 0 ≤ p := by have := h.lo; omega
  rw [Int.fmod_eq_emod_of_nonneg _ h0]
  exact ⟨Int.emod_nonneg _ (by have := h.lo; omega), Int.emod_lt_of_pos _ (by have := h.lo; omega)⟩
theorem map_int_len (l : List Int) : (l.map D.int).length = l.length := List.length_map _
theorem lfRow_D (l : Lf) : encI (lfRow l) = .tup (([.int 0, .int (num l.nm), .int (((l.ws.map D.int).length : Nat) : Int)] ++ l.ws.map .int) ++ l.ns.map .int) := by
  unfold encI lfRow
  rw [List.map_append, List.map_append, List.length_map]
  rfl
theorem smNums_D (s : Sm) : encI (smNums s) = .tup (([.int s.sl, .int s.cnt] ++ s.sums.map .int) ++ [.int (num s.lo), .int (num s.hi)]) := by
  unfold encI smNums
  rw [List.map_append, List.map_append]
  rfl
theorem brRow_D (a b : Sm) : encI (brRow a b) = .tup (([.int 1, .int (((a.sums.map D.int).length : Nat) : Int)] ++ (smNums a).map .int) ++ (smNums b).map .int) := by
  unfold encI brRow
  rw [List.map_append, List.map_append, List.length_map]
  rfl
theorem topRow_D (s : Sm) : encI (topRow s) = .tup ([.int 3, .int (((s.sums.map D.int).length : Nat) : Int)] ++ (smNums s).map .int) := by
  unfold encI topRow
  rw [List.map_append, List.length_map]
  rfl
theorem smNums_len {q : Nat} {s : Sm} (h : SmOk q s) : (smNums s).length ≤ 10 := by
  have h1 := h.ql
  have h2 := h.q3
  unfold smNums
  simp only [List.length_append, List.length_cons, List.length_nil]
  omega
theorem lfRow_len {q : Nat} {l : Lf} (h : LfOk q l) : (lfRow l).length ≤ 1000 := by
  have h1 := h.wl
  have h2 := h.q3
  have h3 := h.nl
  unfold lfRow
  simp only [List.length_append, List.length_cons, List.length_nil]
  omega
theorem brRow_len {q : Nat} {a b : Sm} (h : SmOk q a) (h' : SmOk q b) : (brRow a b).length ≤ 1000 := by
  have h1 := smNums_len h
  have h2 := smNums_len h'
  unfold brRow
  simp only [List.length_append, List.length_cons, List.length_nil]
  omega
theorem topRow_len {q : Nat} {s : Sm} (h : SmOk q s) : (topRow s).length ≤ 1000 := by
  have h1 := smNums_len h
  unfold topRow
  simp only [List.length_append, List.length_cons, List.length_nil]
  omega
end SG

namespace SG
open PySem L2
/-! ### numbers of names -/
def numN (s : Str) : Nat := numTo s.cps.toList 8
theorem num_eq (s : Str) : num s = (numN s : Int) := rfl
theorem dig_lt (l : List Nat) (h : ∀ c ∈ l, c ∈ alph) (k : Nat) : dig l k < 64 := by
  unfold dig
  cases e : l[k]? with
  | none => decide
  | some c =>
    have q : alph.idxOf c < alph.length := List.idxOf_lt_length_iff.mpr (h c (List.mem_of_getElem? e))
    have q2 : alph.length = 37 := by decide
    show alph.idxOf c + 1 < 64
    omega
theorem numTo_lt (l : List Nat) (h : ∀ c ∈ l, c ∈ alph) : ∀ k, numTo l k < 64 ^ k
  | 0 => Nat.lt_succ_self 0
  | k + 1 => by
    have q := numTo_lt l h k
    have d := dig_lt l h k
    show numTo l k * 64 + dig l k < 64 ^ (k + 1)
    rw [Nat.pow_succ]
    omega
theorem numN_lt {s : Str} (h : Nm s) : numN s < 2 ^ 48 := numTo_lt _ h.mem 8
/-- the bit at place k -/
def bt (s : Str) (k : Nat) : Bool := (numN s).testBit (47 - k)
theorem bitAt_eq {s : Str} {k : Nat} (hk : k ≤ 47) : bitAt s (k : Int) = if bt s k then 1 else 0 := by
  unfold bitAt bt
  rw [num_eq]
  have e : (48 - 1 - (k : Int)).toNat = 47 - k := by omega
  rw [e, Nat.testBit_eq_decide_div_mod_eq]
  have e2 : ((numN s : Int) / 2 ^ (47 - k)) = ((numN s / 2 ^ (47 - k) : Nat) : Int) := by
    rw [Int.natCast_ediv, Int.natCast_pow]
    rfl
  rw [e2, Int.fmod_eq_emod_of_nonneg _ (by decide)]
  have e3 : (((numN s / 2 ^ (47 - k) : Nat) : Int) % 2) = (((numN s / 2 ^ (47 - k)) % 2 : Nat) : Int) := by omega
  rw [e3]
  have e4 : (numN s / 2 ^ (47 - k)) % 2 < 2 := Nat.mod_lt _ (by decide)
  by_cases c : (numN s / 2 ^ (47 - k)) % 2 = 1
  · simp [c]
  · have c0 : (numN s / 2 ^ (47 - k)) % 2 = 0 := by omega
    simp [c0]
def xr (a b : Str) : Nat := numN a ^^^ numN b
theorem xor_num (a b : Str) : Builtin.bitXor (num a) (num b) = ((xr a b : Nat) : Int) := by
  rw [num_eq, num_eq, Bits.bitXor_pp (by omega) (by omega)]
  rfl
theorem xr_lt {a b : Str} (ha : Nm a) (hb : Nm b) : xr a b < 2 ^ 48 := Nat.xor_lt_two_pow (numN_lt ha) (numN_lt hb)
theorem bits_le {m x : Nat} : Builtin.Int.intBits ((x : Nat) : Int) ≤ m ↔ x < 2 ^ m := by
  have h := intBits_le_iff (m := m) (x := ((x : Nat) : Int))
  rw [h]
  simp
theorem partg_rng {a b : Str} (ha : Nm a) (hb : Nm b) {k : Int} (h : partg a b = some k) : 0 ≤ k ∧ k ≤ 47 := by
  unfold partg at h
  rw [xor_num] at h
  by_cases c : ((xr a b : Nat) : Int) = 0
  · rw [if_pos c] at h
    cases h
  · rw [if_neg c] at h
    cases h
    have h1 : Builtin.Int.intBits ((xr a b : Nat) : Int) ≤ 48 := bits_le.mpr (xr_lt ha hb)
    have h2 : ¬ Builtin.Int.intBits ((xr a b : Nat) : Int) ≤ 0 := fun z => by
      have := bits_le.mp z
      omega
    omega
/-- they agree before k and part at k -/
theorem partg_at {a b : Str} (ha : Nm a) (hb : Nm b) {k : Nat} (hk : k ≤ 47) (hj : ∀ j, j < k → bt a j = bt b j) (h : bt a k ≠ bt b k) : partg a b = some (k : Int) := by
  have tb : ∀ i, (xr a b).testBit i = ((numN a).testBit i != (numN b).testBit i) := fun i => by
    unfold xr
    rw [Nat.testBit_xor]
  have up : xr a b < 2 ^ (48 - k) := Nat.lt_pow_two_of_testBit _ fun i hi => by
    by_cases c : 48 ≤ i
    · exact Nat.testBit_lt_two_pow (Nat.lt_of_lt_of_le (xr_lt ha hb) (Nat.pow_le_pow_right (by decide) c))
    · have q := hj (47 - i) (by omega)
      unfold bt at q
      have e : 47 - (47 - i) = i := by omega
      rw [e] at q
      rw [tb, q]
      simp
  have lo : 2 ^ (47 - k) ≤ xr a b := Nat.ge_two_pow_of_testBit (by
    rw [tb]
    unfold bt at h
    simpa using h)
  have p0 : 0 < 2 ^ (47 - k) := Nat.pow_pos (by decide)
  have h1 : Builtin.Int.intBits ((xr a b : Nat) : Int) ≤ 48 - k := bits_le.mpr up
  have h2 : ¬ Builtin.Int.intBits ((xr a b : Nat) : Int) ≤ 47 - k := fun z => by
    have := bits_le.mp z
    omega
  unfold partg
  rw [xor_num, if_neg (by omega)]
  refine congrArg some ?_
  omega
/-- they agree up to k -/
theorem partg_after {a b : Str} (ha : Nm a) (hb : Nm b) {k : Nat} (hk : k ≤ 47) (hj : ∀ j, j ≤ k → bt a j = bt b j) : (match partg a b with
    | none => true
    | some j => decide ((k : Int) < j)) = true := by
  have tb : ∀ i, (xr a b).testBit i = ((numN a).testBit i != (numN b).testBit i) := fun i => by
    unfold xr
    rw [Nat.testBit_xor]
  have up : xr a b < 2 ^ (47 - k) := Nat.lt_pow_two_of_testBit _ fun i hi => by
    by_cases c : 48 ≤ i
    · exact Nat.testBit_lt_two_pow (Nat.lt_of_lt_of_le (xr_lt ha hb) (Nat.pow_le_pow_right (by decide) c))
    · have q := hj (47 - i) (by omega)
      unfold bt at q
      have e : 47 - (47 - i) = i := by omega
      rw [e] at q
      rw [tb, q]
      simp
  have h1 : Builtin.Int.intBits ((xr a b : Nat) : Int) ≤ 47 - k := bits_le.mpr up
  unfold partg
  rw [xor_num]
  by_cases c : ((xr a b : Nat) : Int) = 0
  · rw [if_pos c]
  · rw [if_neg c]
    refine decide_eq_true ?_
    omega
theorem lt_of_bit {x y : Nat} (i : Nat) (hx : x.testBit i = false) (hy : y.testBit i = true) (h : ∀ j, i < j → x.testBit j = y.testBit j) : x < y := by
  have e : x / 2 ^ (i + 1) = y / 2 ^ (i + 1) := by
    refine Nat.eq_of_testBit_eq fun j => ?_
    rw [Nat.testBit_div_two_pow, Nat.testBit_div_two_pow]
    exact h _ (by omega)
  rw [Nat.testBit_eq_decide_div_mod_eq] at hx hy
  have hx' : ¬ x / 2 ^ i % 2 = 1 := of_decide_eq_false hx
  have hy' : y / 2 ^ i % 2 = 1 := of_decide_eq_true hy
  rw [Nat.pow_succ, ← Nat.div_div_eq_div_mul, ← Nat.div_div_eq_div_mul] at e
  exact Nat.lt_of_div_lt_div (c := 2 ^ i) (by omega)
/-- agreeing before k, the one with the bit 0 is less -/
theorem num_lt_of {a b : Str} (ha : Nm a) (hb : Nm b) {k : Nat} (hk : k ≤ 47) (hj : ∀ j, j < k → bt a j = bt b j) (h0 : bt a k = false) (h1 : bt b k = true) : numN a < numN b := by
  refine lt_of_bit (47 - k) h0 h1 fun j hjj => ?_
  by_cases c : 48 ≤ j
  · rw [Nat.testBit_lt_two_pow (Nat.lt_of_lt_of_le (numN_lt ha) (Nat.pow_le_pow_right (by decide) c)), Nat.testBit_lt_two_pow (Nat.lt_of_lt_of_le (numN_lt hb) (Nat.pow_le_pow_right (by decide) c))]
  · have q := hj (47 - j) (by omega)
    unfold bt at q
    have e : 47 - (47 - j) = j := by omega
    rw [e] at q
    exact q
theorem num_eq_of {a b : Str} (ha : Nm a) (hb : Nm b) (hj : ∀ j, j < 48 → bt a j = bt b j) : numN a = numN b := by
  refine Nat.eq_of_testBit_eq fun j => ?_
  by_cases c : 48 ≤ j
  · rw [Nat.testBit_lt_two_pow (Nat.lt_of_lt_of_le (numN_lt ha) (Nat.pow_le_pow_right (by decide) c)), Nat.testBit_lt_two_pow (Nat.lt_of_lt_of_le (numN_lt hb) (Nat.pow_le_pow_right (by decide) c))]
  · have q := hj (47 - j) (by omega)
    unfold bt at q
    have e : 47 - (47 - j) = j := by omega
    rw [e] at q
    exact q
end SG

namespace SG
open PySem L2
/-! ### what the defs answer, on data -/
def Rnum (ds : List D) (d : D) : Prop := ∃ s, Nm s ∧ ds = [.str s] ∧ d = .int (num s)
def Rbit (ds : List D) (d : D) : Prop := ∃ s i, Nm s ∧ (0 ≤ i ∧ i ≤ 47) ∧ ds = [.str s, .int i] ∧ d = .int (bitAt s i)
def Rpart (ds : List D) (d : D) : Prop := ∃ a b, Nm a ∧ Nm b ∧ ds = [.str a, .str b] ∧ d = encOI (partg a b)
def Risn (ds : List D) (d : D) : Prop := ∃ s, Nm s ∧ ds = [.str s] ∧ d = .bl true
def Rleast (ds : List D) (d : D) : Prop := ∃ q t, TOk q t ∧ ds = [encT t] ∧ d = .str (least t)
def Rgreat (ds : List D) (d : D) : Prop := ∃ q t, TOk q t ∧ ds = [encT t] ∧ d = .str (great t)
def RlfRow (ds : List D) (d : D) : Prop := ∃ q l, LfOk q l ∧ ds = [encL l] ∧ d = encI (lfRow l)
def RsmNums (ds : List D) (d : D) : Prop := ∃ q s, SmOk q s ∧ ds = [encS s] ∧ d = encI (smNums s)
def RbrRow (ds : List D) (d : D) : Prop := ∃ q a b, SmOk q a ∧ SmOk q b ∧ ds = [encS a, encS b] ∧ d = encI (brRow a b)
def Rsl (C : Addr) (ds : List D) (d : D) : Prop := ∃ p row, PM p ∧ row.length ≤ 1000 ∧ ds = [.obj C p, encI row] ∧ d = .int (sealOf p row)
def RbrSm (C : Addr) (ds : List D) (d : D) : Prop := ∃ p q a b, PM p ∧ SmOk q a ∧ SmOk q b ∧ ds = [.obj C p, encS a, encS b] ∧ d = encS (brSm p a b)
def Rsumm (C : Addr) (n : Nat) (ds : List D) (d : D) : Prop := ∃ p q t, PM p ∧ TOk q t ∧ t.dep ≤ n ∧ ds = [.obj C p, encT t] ∧ d = encS (summ p t)
def Rtop (C : Addr) (n : Nat) (ds : List D) (d : D) : Prop := ∃ p q o, PM p ∧ OTOk q n o ∧ ds = [.obj C p, encTo o] ∧ d = encI (topRowO p o)
def Rroot (C : Addr) (n : Nat) (ds : List D) (d : D) : Prop := ∃ p q o, PM p ∧ OTOk q n o ∧ ds = [.obj C p, encTo o] ∧ d = .int (rootOf p o)
def Rworths (ds : List D) (d : D) : Prop := ∃ ws : List Int, (1 ≤ ws.length ∧ ws.length ≤ 3) ∧ (∀ v ∈ ws, 0 ≤ v ∧ v ≤ 1000000000000000) ∧ ds = [encI ws] ∧ d = .bl true
def Rnotes (ds : List D) (d : D) : Prop := ∃ ns : List Int, ns.length ≤ 12 ∧ (∀ v ∈ ns, 0 ≤ v ∧ v ≤ 2305843009213693952) ∧ ds = [encI ns] ∧ d = .bl true
def RisLeaf (ds : List D) (d : D) : Prop := ∃ q l, LfOk q l ∧ ds = [encL l] ∧ d = .bl true
def RareSides (ds : List D) (d : D) : Prop := ∃ q a b, TOk q a ∧ TOk q b ∧ ds = [encT a, encT b] ∧ d = .bl (areSides a b)
def RisIn (ds : List D) (d : D) : Prop := ∃ q t i x, TOk q t ∧ (0 ≤ i ∧ i ≤ 47) ∧ ds = [encT t, .int i, .int x] ∧ d = .bl (isInside (least t) (great t) i x)
def Rkinds (n : Nat) (ds : List D) (d : D) : Prop := ∃ q t, TOk q t ∧ t.dep ≤ n ∧ ds = [encT t] ∧ d = .int (q : Nat)
def Rvalid (C : Addr) (n : Nat) (ds : List D) (d : D) : Prop := ∃ p q t, TOk q t ∧ t.dep ≤ n ∧ ds = [.obj C p, encT t] ∧ d = .bl true
def Rorder (n : Nat) (ds : List D) (d : D) : Prop := ∃ q t, TOk q t ∧ t.dep ≤ n ∧ ds = [encT t] ∧ d = .bl (hasOrder t)
def wellF : Option T → Bool
  | none => true
  | some t => hasOrder t
def Rwf (C : Addr) (n : Nat) (ds : List D) (d : D) : Prop := ∃ p q o, OTOk q n o ∧ ds = [.obj C p, encTo o] ∧ d = .bl (wellF o)
theorem T.dep_pos (t : T) : 1 ≤ t.dep := by
  cases t with
  | lf l => exact Nat.le_refl _
  | br a b => exact Nat.le_add_left _ _
theorem encT_ne (t : T) : (encT t).isN = false := by
  cases t <;> rfl
def leftL : T → Lf
  | .lf l => l
  | .br a _ => leftL a
def rightL : T → Lf
  | .lf l => l
  | .br _ b => rightL b
theorem leftL_nm : ∀ t : T, (leftL t).nm = least t
  | .lf _ => rfl
  | .br a _ => leftL_nm a
theorem rightL_nm : ∀ t : T, (rightL t).nm = great t
  | .lf _ => rfl
  | .br _ b => rightL_nm b
/-! ### questions and answers -/
inductive Qn where
  | leaf (x : Str) | several (l : List Str) | count | total | range (x y : Str) | rank (x : Str) | place (n : Int) | next (x : Str)
@[reducible] def encQ : Qn → D
  | .leaf x => .tup [.str "leaf", .str x]
  | .several l => .tup [.str "several", .tup (l.map .str)]
  | .count => .tup [.str "count"]
  | .total => .tup [.str "total"]
  | .range x y => .tup [.str "range", .str x, .str y]
  | .rank x => .tup [.str "rank", .str x]
  | .place n => .tup [.str "place", .int n]
  | .next x => .tup [.str "next", .str x]
def QnOk : Qn → Prop
  | .leaf x => Nm x
  | .several l => l.length ≤ 1000 ∧ ∀ x ∈ l, Nm x
  | .count => True
  | .total => True
  | .range x y => Nm x ∧ Nm y
  | .rank x => Nm x
  | .place n => 0 ≤ n
  | .next x => Nm x
inductive An where
  | non | lf (ws ns : List Int) | int (i : Int) | sums (l : List Int) | rng (c : Int) (o : Option (List Int)) | nm (s : Str) | sev (l : List An)
def encR : Option (List Int) → D
  | none => .non
  | some l => encI l
mutual
def encA : An → D
  | .non => .non
  | .lf ws ns => .tup [encI ws, encI ns]
  | .int i => .int i
  | .sums l => encI l
  | .rng c o => .tup [.int c, encR o]
  | .nm s => .str s
  | .sev l => .tup (encAs l)
def encAs : List An → List D
  | [] => []
  | a :: r => encA a :: encAs r
end
def encTold : Option An → D
  | none => .non
  | some d => .tup [.str "told", encA d]
def leafTold (x : Str) (s : Sm) : Option An := if num s.lo ≤ num x ∧ num x ≤ num s.hi then none else some .non
def rangeTold (x y : Str) (s : Sm) : Option An := if num s.hi < num x ∨ num y < num s.lo ∨ num y < num x then some (.rng 0 none) else if num x ≤ num s.lo ∧ num s.hi ≤ num y then some (.rng s.cnt (some s.sums)) else none
def rankTold (x : Str) (s : Sm) : Option An := if num x ≤ num s.lo then some (.int 0) else if num s.hi < num x then some (.int s.cnt) else none
def placeTold (n : Int) (s : Sm) : Option An := if s.cnt ≤ n then some .non else if n = 0 then some (.nm s.lo) else if n = s.cnt - 1 then some (.nm s.hi) else none
def nextTold (x : Str) (s : Sm) : Option An := if num x < num s.lo then some (.nm s.lo) else if num s.hi ≤ num x then some .non else none
def toldQ : Qn → Sm → Option An
  | .count, s => some (.int s.cnt)
  | .total, s => some (.sums s.sums)
  | .leaf x, s => leafTold x s
  | .range x y, s => rangeTold x y s
  | .rank x, s => rankTold x s
  | .place n, s => placeTold n s
  | .next x, s => nextTold x s
  | .several _, _ => none
def encOQ : Option Qn → D
  | none => .non
  | some q => encQ q
def sideQ : Qn → Sm → Option Qn × Option Qn
  | .place n, a => if n < a.cnt then (some (.place n), none) else (none, some (.place (n - a.cnt)))
  | .next x, a => if num x < num a.hi then (some (.next x), none) else (none, some (.next x))
  | .leaf x, a => if num x ≤ num a.hi then (some (.leaf x), none) else (none, some (.leaf x))
  | q, _ => (some q, some q)
def joinA : An → An → An
  | .rng c o, .rng c' o' => if c = 0 then .rng c' o' else if c' = 0 then .rng c o else .rng (c + c') (some (List.zipWith (· + ·) (o.getD []) (o'.getD [])))
  | _, _ => .non
def addA : An → An → An
  | .int i, .int j => .int (i + j)
  | _, _ => .non
/-- the answer of a part -/
def ans (p : Int) : T → Qn → An
  | .lf l, q => (toldQ q (summ p (.lf l))).getD (.lf l.ws l.ns)
  | .br a b, q => (toldQ q (summ p (.br a b))).getD (match q with
    | .leaf x => if num x ≤ num (summ p a).hi then ans p a (.leaf x) else ans p b (.leaf x)
    | .place n => if n < (summ p a).cnt then ans p a (.place n) else ans p b (.place (n - (summ p a).cnt))
    | .next x => if num x < num (summ p a).hi then ans p a (.next x) else ans p b (.next x)
    | .range x y => joinA (ans p a (.range x y)) (ans p b (.range x y))
    | .rank x => addA (ans p a (.rank x)) (ans p b (.rank x))
    | _ => .non)
def RngOk (q : Nat) (c : Int) (o : Option (List Int)) : Prop := c ≠ 0 → ∃ l, o = some l ∧ l.length = q
def RleafT (ds : List D) (d : D) : Prop := ∃ x q s, Nm x ∧ SmOk q s ∧ ds = [.str x, encS s] ∧ d = encTold (leafTold x s)
def RrangeT (ds : List D) (d : D) : Prop := ∃ x y q s, Nm x ∧ Nm y ∧ SmOk q s ∧ ds = [.str x, .str y, encS s] ∧ d = encTold (rangeTold x y s)
def RrankT (ds : List D) (d : D) : Prop := ∃ x q s, Nm x ∧ SmOk q s ∧ ds = [.str x, encS s] ∧ d = encTold (rankTold x s)
def RplaceT (ds : List D) (d : D) : Prop := ∃ n q s, SmOk q s ∧ ds = [.int n, encS s] ∧ d = encTold (placeTold n s)
def RnextT (ds : List D) (d : D) : Prop := ∃ x q s, Nm x ∧ SmOk q s ∧ ds = [.str x, encS s] ∧ d = encTold (nextTold x s)
def NotSev : Qn → Prop
  | .several _ => False
  | _ => True
def Rtold (ds : List D) (d : D) : Prop := ∃ q k s, QnOk q ∧ NotSev q ∧ SmOk k s ∧ ds = [encQ q, encS s] ∧ d = encTold (toldQ q s)
def RsideQ (ds : List D) (d : D) : Prop := ∃ q k a b, QnOk q ∧ NotSev q ∧ SmOk k a ∧ ds = [encQ q, encS a, encS b] ∧ d = .tup [encOQ (sideQ q a).1, encOQ (sideQ q a).2]
def Rjoin (ds : List D) (d : D) : Prop := ∃ q c o c' o', RngOk q c o ∧ RngOk q c' o' ∧ q ≤ 3 ∧ ds = [encA (.rng c o), encA (.rng c' o')] ∧ d = encA (joinA (.rng c o) (.rng c' o'))
def Rpa (C : Addr) (n : Nat) (ds : List D) (d : D) : Prop := ∃ p k t q, PM p ∧ TOk k t ∧ t.dep ≤ n ∧ QnOk q ∧ NotSev q ∧ ds = [.obj C p, encT t, encQ q] ∧ d = encA (ans p t q)
def Rba (C : Addr) (n : Nat) (ds : List D) (d : D) : Prop := ∃ p k a b q, PM p ∧ TOk k a ∧ TOk k b ∧ a.dep ≤ n ∧ b.dep ≤ n ∧ QnOk q ∧ NotSev q ∧ toldQ q (summ p (.br a b)) = none ∧ ds = [.obj C p, encT (.br a b), encQ q] ∧ d = encA (ans p (.br a b) q)
def emptyA : Qn → An
  | .count => .int 0
  | .rank _ => .int 0
  | .range _ _ => .rng 0 none
  | _ => .non
def Rempty (ds : List D) (d : D) : Prop := ∃ q, NotSev q ∧ ds = [encQ q] ∧ d = encA (emptyA q)
/-- the answer of a tree -/
def askA (p : Int) (o : Option T) (q : Qn) : An := match q with
  | .several l => .sev (l.map fun x => match o with
    | none => .non
    | some t => ans p t (.leaf x))
  | q => match o with
    | none => emptyA q
    | some t => ans p t q
def Rask0 (C : Addr) (n : Nat) (ds : List D) (d : D) : Prop := ∃ p k o q, PM p ∧ OTOk k n o ∧ QnOk q ∧ NotSev q ∧ ds = [.obj C p, encTo o, encQ q] ∧ d = encA (askA p o q)
def Rask (C : Addr) (n : Nat) (ds : List D) (d : D) : Prop := ∃ p k o q, PM p ∧ OTOk k n o ∧ QnOk q ∧ ds = [.obj C p, encTo o, encQ q] ∧ d = encA (askA p o q)
/-! ### the law's own defs -/
def cell (ns : List Int) (i : Int) : Int := (ns[i.toNat]?).getD 0
def shorts : List Str := ["a", "b", "aa", "ab", "a0", "a_", "abc", "z", "zz", "0", "_", "zzzzzzzz", "00000000", "ab0", "abd", "b_"]
def lwRest (r : Int) : Nat → Int
  | 0 => r
  | k + 1 => lwRest r k * 7 + 3 + (k : Int)
def letter (i : Int) : Nat := (alph[((i.fdiv 11).fmod 37).toNat]?).getD 48
def lwName (r : Int) : Nat → Str
  | 0 => ""
  | k + 1 => lwName r k ++ (⟨#[letter (lwRest r (k + 1))]⟩ : Str)
def lawName (n : Int) : Str := if n.fmod 3 = 0 then (shorts[((n.fdiv 3).fmod 16).toNat]?).getD "a" else lwName (n.fdiv 3) (1 + (n.fdiv 3).fmod 8).toNat
def smalls : List Int := [3, 5, 7, 11, 31, 97, 1009, 65537]
def lawMod (n : Int) : Int := if n.fmod 3 = 0 then (smalls[((n.fdiv 3).fmod 8).toNat]?).getD 3 else if n.fmod 3 = 1 then 2305843009213693951 - (n.fdiv 3).fmod 1000 else 3 + (n.fdiv 3).fmod 1000000
theorem fmod_rng (n : Int) {m : Int} (h : 0 < m) : 0 ≤ n.fmod m ∧ n.fmod m < m := by
  rw [Int.fmod_eq_emod_of_nonneg _ (Int.le_of_lt h)]
  exact ⟨Int.emod_nonneg _ (by omega), Int.emod_lt_of_pos _ h⟩
theorem getD_mem {α : Type} {l : List α} {i : Nat} {x : α} (h : i < l.length) : (l[i]?).getD x ∈ l ∧ l[i]? = some ((l[i]?).getD x) := by
  rw [List.getElem?_eq_getElem h]
  exact ⟨List.getElem_mem h, rfl⟩
theorem lawMod_ok (n : Int) : PM (lawMod n) := by
  unfold lawMod
  have h1 := fmod_rng (n.fdiv 3) (m := 8) (by decide)
  have h2 := fmod_rng (n.fdiv 3) (m := 1000) (by decide)
  have h3 := fmod_rng (n.fdiv 3) (m := 1000000) (by decide)
  split
  · have q := (getD_mem (l := smalls) (i := ((n.fdiv 3).fmod 8).toNat) (x := 3) (by have e : smalls.length = 8 := rfl; omega)).1
    have all : ∀ x ∈ smalls, 3 ≤ x ∧ x ≤ 2305843009213693951 := by decide
    exact ⟨(all _ q).1, (all _ q).2⟩
  · split
    · exact ⟨by omega, by omega⟩
    · exact ⟨by omega, by omega⟩
theorem letter_mem (i : Int) : letter i ∈ alph := by
  have h := fmod_rng (i.fdiv 11) (m := 37) (by decide)
  exact (getD_mem (l := alph) (x := 48) (by have e : alph.length = 37 := by decide
                                            omega)).1
theorem app_list (x y : Str) : (x ++ y).cps.toList = x.cps.toList ++ y.cps.toList := by
  show (x.cps ++ y.cps).toList = _
  simp
theorem lwName_len (r : Int) : ∀ k, (lwName r k).cps.toList.length = k
  | 0 => by
    have e : ("" : Str).cps.toList.length = 0 := by decide +kernel
    exact e
  | k + 1 => by
    show (lwName r k ++ (⟨#[letter (lwRest r (k + 1))]⟩ : Str)).cps.toList.length = k + 1
    rw [app_list, List.length_append, lwName_len r k]
    rfl
theorem lwName_mem (r : Int) : ∀ k, ∀ c ∈ (lwName r k).cps.toList, c ∈ alph
  | 0 => by
    have e : (lwName r 0).cps.toList = [] := by
      have : (("" : Str).cps.toList) = [] := by decide +kernel
      exact this
    rw [e]
    intro c h
    cases h
  | k + 1 => by
    show ∀ c ∈ (lwName r k ++ (⟨#[letter (lwRest r (k + 1))]⟩ : Str)).cps.toList, c ∈ alph
    rw [app_list]
    intro c h
    rcases List.mem_append.mp h with h | h
    · exact lwName_mem r k c h
    · have e : c = letter (lwRest r (k + 1)) := by simpa using h
      rw [e]
      exact letter_mem _
def nmB (s : Str) : Bool := decide (1 ≤ s.cps.toList.length) && (decide (s.cps.toList.length ≤ 8) && s.cps.toList.all fun c => alph.contains c)
theorem nm_of {s : Str} (h : nmB s = true) : Nm s := by
  unfold nmB at h
  simp only [Bool.and_eq_true, decide_eq_true_eq, List.all_eq_true] at h
  obtain ⟨h1, h2, h3⟩ := h
  exact ⟨h1, h2, fun c hc => by simpa using h3 c hc⟩
theorem shorts_nm : ∀ s ∈ shorts, nmB s = true := by decide +kernel
theorem lawName_ok (n : Int) : Nm (lawName n) := by
  unfold lawName
  have h1 := fmod_rng (n.fdiv 3) (m := 16) (by decide)
  have h2 := fmod_rng (n.fdiv 3) (m := 8) (by decide)
  split
  · exact nm_of (shorts_nm _ (getD_mem (l := shorts) (x := "a") (by have e : shorts.length = 16 := rfl; omega)).1)
  · refine ⟨?_, ?_, lwName_mem _ _⟩
    · rw [lwName_len]
      omega
    · rw [lwName_len]
      omega
def Rcell (ds : List D) (d : D) : Prop := ∃ ns i, ns.length ≤ 63 ∧ 0 ≤ i ∧ ds = [.sq (ns.map .int), .int i] ∧ d = .int (cell ns i)
def Rname (ds : List D) (d : D) : Prop := ∃ n, ds = [.int n] ∧ d = .str (lawName n)
def Rmod (ds : List D) (d : D) : Prop := ∃ n, ds = [.int n] ∧ d = .int (lawMod n)
def Rlsl (ds : List D) (d : D) : Prop := ∃ p row, PM p ∧ row.length ≤ 1000 ∧ ds = [.int p, encI row] ∧ d = .int (sealOf p row)
def rowT (p : Int) : T → List Int
  | .lf l => lfRow l
  | .br a b => brRow (summ p a) (summ p b)
def Rlrow (n : Nat) (ds : List D) (d : D) : Prop := ∃ p q t, PM p ∧ TOk q t ∧ t.dep ≤ n ∧ ds = [.int p, encT t] ∧ d = encI (rowT p t)
def Rlsum (n : Nat) (ds : List D) (d : D) : Prop := ∃ p q t, PM p ∧ TOk q t ∧ t.dep ≤ n ∧ ds = [.int p, encT t] ∧ d = encS (summ p t)
def Rltop (n : Nat) (ds : List D) (d : D) : Prop := ∃ p q o, PM p ∧ OTOk q n o ∧ ds = [.int p, encTo o] ∧ d = encI (topRowO p o)
def Rlroot (n : Nat) (ds : List D) (d : D) : Prop := ∃ p q o, PM p ∧ OTOk q n o ∧ ds = [.int p, encTo o] ∧ d = .int (rootOf p o)
/-! ### building -/
def hv (s : Str) : Nat → Int
  | 0 => num s
  | n + 1 => (hv s n).fdiv 2
theorem hv_eq (s : Str) : ∀ n, hv s n = num s / 2 ^ n
  | 0 => by
    show num s = num s / 1
    rw [Int.ediv_one]
  | n + 1 => by
    show (hv s n).fdiv 2 = _
    rw [hv_eq s n, Int.fdiv_eq_ediv_of_nonneg _ (by decide), Int.ediv_ediv_of_nonneg (Int.le_of_lt (Int.pow_pos (by decide))), Int.pow_succ]
@[reducible] def bitsD (s : Str) : D := .lst ((List.range 48).map fun k : Nat => .int (bitAt s (k : Int)))
@[reducible] def encRow (l : Lf) : D := .tup [.int (num l.nm), bitsD l.nm, encL l]
def p0 (k : Int) (l : Lf) : Bool := decide (bitAt l.nm k = 0)
def p1 (k : Int) (l : Lf) : Bool := decide (bitAt l.nm k = 1)
def splits (k : Int) (ls : List Lf) : Bool := decide (0 < (ls.filter (p0 k)).length) && decide ((ls.filter (p0 k)).length < ls.length)
theorem splits_eq (k : Int) (ls : List Lf) : (decide ((0 : Int) < ((((ls.filter (p0 k)).map encRow).length : Nat) : Int)) && decide (((((ls.filter (p0 k)).map encRow).length : Nat) : Int) < (((ls.map encRow).length : Nat) : Int))) = splits k ls := by
  unfold splits
  rw [List.length_map, List.length_map]
  have e1 : decide ((0 : Int) < (((ls.filter (p0 k)).length : Nat) : Int)) = decide (0 < (ls.filter (p0 k)).length) := decide_eq_decide.mpr (by omega)
  have e2 : decide ((((ls.filter (p0 k)).length : Nat) : Int) < ((ls.length : Nat) : Int)) = decide ((ls.filter (p0 k)).length < ls.length) := decide_eq_decide.mpr (by omega)
  rw [e1, e2]
/-- n places are left: the place is 48 - n -/
def split : Nat → List Lf → Option T
  | 0, ls => match ls with
    | [l] => some (.lf l)
    | _ => none
  | n + 1, ls => match ls with
    | [l] => some (.lf l)
    | ls => if splits (48 - ((n + 1 : Nat) : Int)) ls = true then (match split n (ls.filter (p0 (48 - ((n + 1 : Nat) : Int)))), split n (ls.filter (p1 (48 - ((n + 1 : Nat) : Int)))) with
      | some x, some y => some (.br x y)
      | _, _ => none) else split n ls
theorem split_one (n : Nat) (l : Lf) : split n [l] = some (.lf l) := by cases n <;> rfl
theorem split_yes {n : Nat} {ls : List Lf} (h : ls.length ≠ 1) (c : splits (48 - ((n + 1 : Nat) : Int)) ls = true) : split (n + 1) ls = (match split n (ls.filter (p0 (48 - ((n + 1 : Nat) : Int)))), split n (ls.filter (p1 (48 - ((n + 1 : Nat) : Int)))) with
      | some x, some y => some (.br x y)
      | _, _ => none) := by
  match ls, h, c with
  | [], _, c => cases c
  | [l], h, _ => exact absurd rfl h
  | a :: b :: r, _, c =>
    show (if splits (48 - ((n + 1 : Nat) : Int)) (a :: b :: r) = true then _ else _) = _
    rw [if_pos c]
theorem split_no {n : Nat} {ls : List Lf} (h : ls.length ≠ 1) (c : ¬ splits (48 - ((n + 1 : Nat) : Int)) ls = true) : split (n + 1) ls = split n ls := by
  match ls, h, c with
  | [], _, c => rfl
  | [l], h, _ => exact absurd rfl h
  | a :: b :: r, _, c => exact if_neg c
theorem split_find {ls : List Lf} (h : ls.length ≠ 1) : ∀ {n : Nat} {t : T}, split n ls = some t → ∃ i, i < n ∧ (∀ j, j < i → splits (48 - (n : Int) + (j : Int)) ls = false) ∧ splits (48 - (n : Int) + (i : Int)) ls = true ∧
    ∃ x y, t = .br x y ∧ split (n - i - 1) (ls.filter (p0 (48 - (n : Int) + (i : Int)))) = some x ∧ split (n - i - 1) (ls.filter (p1 (48 - (n : Int) + (i : Int)))) = some y
  | 0, t, e => by
    match ls, h, e with
    | [], _, e => cases e
    | [l], h, _ => exact absurd rfl h
    | a :: b :: r, _, e => cases e
  | n + 1, t, e => by
    by_cases c : splits (48 - ((n + 1 : Nat) : Int)) ls = true
    · rw [split_yes h c] at e
      have z : (48 : Int) - ((n + 1 : Nat) : Int) + ((0 : Nat) : Int) = 48 - ((n + 1 : Nat) : Int) := by omega
      refine ⟨0, Nat.succ_pos n, fun j hj => absurd hj (Nat.not_lt_zero j), by rw [z]; exact c, ?_⟩
      rw [z]
      cases e1 : split n (ls.filter (p0 (48 - ((n + 1 : Nat) : Int)))) with
      | none => rw [e1] at e; cases e
      | some x =>
        cases e2 : split n (ls.filter (p1 (48 - ((n + 1 : Nat) : Int)))) with
        | none => rw [e1, e2] at e; cases e
        | some y =>
          rw [e1, e2] at e
          cases e
          exact ⟨x, y, rfl, e1, e2⟩
    · rw [split_no h c] at e
      obtain ⟨i, hi, h1, h2, x, y, e0, e1, e2⟩ := split_find h e
      have z : ∀ j : Nat, (48 : Int) - ((n + 1 : Nat) : Int) + ((j + 1 : Nat) : Int) = 48 - (n : Int) + (j : Int) := fun j => by omega
      refine ⟨i + 1, by omega, fun j hj => ?_, by rw [z]; exact h2, x, y, e0, ?_, ?_⟩
      · cases j with
        | zero =>
          have z0 : (48 : Int) - ((n + 1 : Nat) : Int) + ((0 : Nat) : Int) = 48 - ((n + 1 : Nat) : Int) := by omega
          rw [z0]
          cases q : splits (48 - ((n + 1 : Nat) : Int)) ls with
          | false => rfl
          | true => exact absurd q c
        | succ j =>
          rw [z]
          exact h1 j (by omega)
      · rw [z]
        have en : n + 1 - (i + 1) - 1 = n - i - 1 := by omega
        rw [en]
        exact e1
      · rw [z]
        have en : n + 1 - (i + 1) - 1 = n - i - 1 := by omega
        rw [en]
        exact e2
theorem filter_two {α : Type} (p q : α → Bool) (h : ∀ x, p x = true → q x = false) : ∀ l : List α, (l.filter p).length + (l.filter q).length ≤ l.length
  | [] => Nat.le_refl _
  | x :: r => by
    have ih := filter_two p q h r
    cases hp : p x with
    | true =>
      have hq := h x hp
      rw [List.filter_cons_of_pos hp, List.filter_cons_of_neg (by rw [hq]; decide)]
      simp only [List.length_cons]
      omega
    | false =>
      rw [List.filter_cons_of_neg (by rw [hp]; decide)]
      cases hq : q x with
      | true =>
        rw [List.filter_cons_of_pos hq]
        simp only [List.length_cons]
        omega
      | false =>
        rw [List.filter_cons_of_neg (by rw [hq]; decide)]
        simp only [List.length_cons]
        omega
theorem p01 (k : Int) (l : Lf) (h : p0 k l = true) : p1 k l = false := by
  unfold p0 at h
  unfold p1
  have := of_decide_eq_true h
  exact decide_eq_false (by omega)
def Rbits (ds : List D) (d : D) : Prop := ∃ s, Nm s ∧ ds = [.str s] ∧ d = bitsD s
def Rsplit (m : Nat) (ds : List D) (d : D) : Prop := ∃ q ls n t, (∀ l ∈ ls, LfOk q l) ∧ 0 < ls.length ∧ ls.length ≤ m ∧ m ≤ 1000 ∧ n ≤ 48 ∧ split n ls = some t ∧ ds = [.lst (ls.map encRow), .int (48 - (n : Int))] ∧ d = encT t
def Built (ls : List Lf) (o : Option T) : Prop := (ls = [] ∧ o = none) ∨ (∃ t, ls ≠ [] ∧ split 48 ls = some t ∧ o = some t)
def Rbuilt (ds : List D) (d : D) : Prop := ∃ q ls o, (∀ l ∈ ls, LfOk q l) ∧ ls.length ≤ 20 ∧ Built ls o ∧ ds = [.lst (ls.map encL)] ∧ d = encTo o
def lawQ (n : Int) : Qn :=
  if n.fmod 8 = 0 then .leaf (lawName ((n.fdiv 8).fmod 120))
  else if n.fmod 8 = 1 then .several ([lawName ((n.fdiv 8).fmod 120), lawName ((n.fdiv 960).fmod 120), lawName ((n.fdiv 8).fmod 120)].take ((n.fdiv 115200).fmod 4).toNat)
  else if n.fmod 8 = 2 then (if (n.fdiv 8).fmod 2 = 0 then .count else .total)
  else if n.fmod 8 < 5 then .range (lawName ((n.fdiv 8).fmod 120)) (lawName ((n.fdiv 960).fmod 120))
  else if n.fmod 8 = 5 then .rank (lawName ((n.fdiv 8).fmod 120))
  else if n.fmod 8 = 6 then .place ((n.fdiv 8).fmod 16)
  else .next (lawName ((n.fdiv 8).fmod 120))
theorem lawQ_ok (n : Int) : QnOk (lawQ n) := by
  unfold lawQ
  split
  · exact lawName_ok _
  · split
    · refine ⟨?_, fun x hx => ?_⟩
      · rw [List.length_take]
        simp only [List.length_cons, List.length_nil]
        omega
      · have h := List.mem_of_mem_take hx
        simp only [List.mem_cons, List.not_mem_nil, or_false] at h
        rcases h with h | h | h <;> (rw [h]; exact lawName_ok _)
    · split
      · split <;> trivial
      · split
        · exact ⟨lawName_ok _, lawName_ok _⟩
        · split
          · exact lawName_ok _
          · split
            · exact (fmod_rng _ (by decide)).1
            · exact lawName_ok _
def Rquest (ds : List D) (d : D) : Prop := ∃ n, ds = [.int n] ∧ d = encQ (lawQ n)
def sumAt (ls : List Lf) (m : Nat) : Int := (ls.map fun l => (l.ws[m]?).getD 0).sum
def sumsL (q : Nat) (ls : List Lf) : Option (List Int) := match ls with
  | [] => none
  | ls => some ((List.range q).map (sumAt ls))
def Rsums (ds : List D) (d : D) : Prop := ∃ q ls, (∀ l ∈ ls, LfOk q l) ∧ ls.length ≤ 1000 ∧ ds = [.lst (ls.map encL)] ∧ d = encR (sumsL q ls)
/-! ### the law's leaves and answers -/
def kvsOf (ls : List Lf) : List (Str × D) := ls.map fun l => (l.nm, encL l)
def getL : List Lf → Str → Option Lf
  | [], _ => none
  | l :: r, x => if l.nm = x then some l else getL r x
def inR (x y : Str) (l : Lf) : Bool := !decide (l.nm.cps.toList < x.cps.toList) && !decide (y.cps.toList < l.nm.cps.toList)
def ltN (x : Str) (l : Lf) : Bool := decide (l.nm.cps.toList < x.cps.toList)
def gtN (x : Str) (l : Lf) : Bool := decide (x.cps.toList < l.nm.cps.toList)
def optA : Option Lf → An
  | none => .non
  | some l => .lf l.ws l.ns
def optS : Option (List Int) → An
  | none => .non
  | some l => .sums l
def optN : Option Lf → An
  | none => .non
  | some l => .nm l.nm
/-- the answer by the leaves in order -/
def lawA (k : Nat) (ls ss : List Lf) : Qn → An
  | .leaf x => optA (getL ls x)
  | .several l => .sev (l.map fun x => optA (getL ls x))
  | .count => .int (ss.length : Nat)
  | .total => optS (sumsL k ss)
  | .range x y => .rng ((ss.filter (inR x y)).length : Nat) (sumsL k (ss.filter (inR x y)))
  | .rank x => .int ((ss.filter (ltN x)).length : Nat)
  | .place n => optN ss[n.toNat]?
  | .next x => optN (ss.filter (gtN x)).head?
structure Sorted (ls ss : List Lf) : Prop where
  perm : ss.Perm ls
  uniq : ∀ ys : List Str, ys.Perm (ls.map Lf.nm) → PyProof.Rows.sortedS ys = true → ys = ss.map Lf.nm
def Small : Qn → Prop
  | .place n => n ≤ 1000
  | _ => True
def Rlans0 (ds : List D) (d : D) : Prop := ∃ k ls ss q, (∀ l ∈ ls, LfOk k l) ∧ ls.length ≤ 20 ∧ (ls.map Lf.nm).Nodup ∧ Sorted ls ss ∧ QnOk q ∧ Small q ∧ NotSev q ∧ ds = [.dct (kvsOf ls), encQ q] ∧ d = encA (lawA k ls ss q)
def Rlans (ds : List D) (d : D) : Prop := ∃ k ls ss q, (∀ l ∈ ls, LfOk k l) ∧ ls.length ≤ 20 ∧ (ls.map Lf.nm).Nodup ∧ Sorted ls ss ∧ QnOk q ∧ Small q ∧ ds = [.dct (kvsOf ls), encQ q] ∧ d = encA (lawA k ls ss q)
def wTab : List Int := [0, 1, 5, 1000000000000000, 77, 300]
def nTab : List Int := [0, 1, 2, 2305843009213693952, 9]
def wAt (c : Int) (j : Nat) : Int := (wTab[((c.fdiv (1200 + 7 * (j : Int))).fmod 6).toNat]?).getD 0
def nAt (c : Int) (j : Nat) : Int := (nTab[((c.fdiv (9000 + 11 * (j : Int))).fmod 5).toNat]?).getD 0
def lfOf (c : Int) (k : Nat) : Lf := ⟨lawName (c.fmod 1200), (List.range k).map (wAt c), (List.range ((c.fdiv 60000).fmod 4).toNat).map (nAt c)⟩
def putL (ls : List Lf) (l : Lf) : List Lf := if (ls.any fun x => decide (x.nm = l.nm)) = true then ls.map (fun x => if x.nm = l.nm then l else x) else ls ++ [l]
def absI (i : Int) : Int := if i < 0 then -i else i
def lawLeaves (ns : List Int) (a : Int) (k : Nat) : Nat → List Lf
  | 0 => []
  | n + 1 => putL (lawLeaves ns a k n) (lfOf (absI (cell ns (a + (n : Int)))) k)
def Rleaves (ds : List D) (d : D) : Prop := ∃ ns a n k, ns.length ≤ 63 ∧ 0 ≤ a ∧ n ≤ 14 ∧ 1 ≤ k ∧ k ≤ 3 ∧ ds = [.sq (ns.map .int), .int a, .int (n : Nat), .int (k : Nat)] ∧ d = .dct (kvsOf (lawLeaves ns a k n))
theorem putL_len (ls : List Lf) (l : Lf) : (putL ls l).length ≤ ls.length + 1 := by
  unfold putL
  split
  · rw [List.length_map]
    omega
  · rw [List.length_append]
    exact Nat.le_refl _
theorem lawLeaves_len (ns : List Int) (a : Int) (k : Nat) : ∀ n, (lawLeaves ns a k n).length ≤ n
  | 0 => Nat.le_refl _
  | n + 1 => Nat.le_trans (putL_len _ _) (Nat.add_le_add_right (lawLeaves_len ns a k n) 1)
theorem putL_mem {ls : List Lf} {l x : Lf} (h : x ∈ putL ls l) : x ∈ ls ∨ x = l := by
  unfold putL at h
  split at h
  · obtain ⟨y, hy, e⟩ := List.mem_map.mp h
    by_cases c : y.nm = l.nm
    · rw [if_pos c] at e
      exact .inr e.symm
    · rw [if_neg c] at e
      rw [← e]
      exact .inl hy
  · rcases List.mem_append.mp h with h | h
    · exact .inl h
    · exact .inr (by simpa using h)
theorem putL_names (ls : List Lf) (l : Lf) : (putL ls l).map Lf.nm = if (ls.any fun x => decide (x.nm = l.nm)) = true then ls.map Lf.nm else ls.map Lf.nm ++ [l.nm] := by
  unfold putL
  split
  · rw [List.map_map]
    refine List.map_congr_left fun x _ => ?_
    show (if x.nm = l.nm then l else x).nm = x.nm
    by_cases c : x.nm = l.nm
    · rw [if_pos c, c]
    · rw [if_neg c]
  · rw [List.map_append]
    rfl
theorem putL_nodup {ls : List Lf} {l : Lf} (h : (ls.map Lf.nm).Nodup) : ((putL ls l).map Lf.nm).Nodup := by
  rw [putL_names]
  split
  · exact h
  · rename_i c
    refine List.nodup_append.mpr ⟨h, by simp, fun x hx y hy => ?_⟩
    have ey : y = l.nm := by simpa using hy
    subst ey
    intro e
    subst e
    obtain ⟨z, hz, ez⟩ := List.mem_map.mp hx
    refine c (List.any_eq_true.mpr ⟨z, hz, decide_eq_true ez⟩)
theorem lawLeaves_nodup (ns : List Int) (a : Int) (k : Nat) : ∀ n, ((lawLeaves ns a k n).map Lf.nm).Nodup
  | 0 => List.nodup_nil
  | n + 1 => putL_nodup (lawLeaves_nodup ns a k n)
theorem wAt_rng (c : Int) (j : Nat) : 0 ≤ wAt c j ∧ wAt c j ≤ 1000000000000000 := by
  have r := fmod_rng (c.fdiv (1200 + 7 * (j : Int))) (m := 6) (by decide)
  have q := (getD_mem (l := wTab) (i := ((c.fdiv (1200 + 7 * (j : Int))).fmod 6).toNat) (x := 0) (by have e : wTab.length = 6 := rfl; omega)).1
  have all : ∀ x ∈ wTab, 0 ≤ x ∧ x ≤ 1000000000000000 := by decide
  exact all _ q
theorem nAt_rng (c : Int) (j : Nat) : 0 ≤ nAt c j ∧ nAt c j ≤ 2305843009213693952 := by
  have r := fmod_rng (c.fdiv (9000 + 11 * (j : Int))) (m := 5) (by decide)
  have q := (getD_mem (l := nTab) (i := ((c.fdiv (9000 + 11 * (j : Int))).fmod 5).toNat) (x := 0) (by have e : nTab.length = 5 := rfl; omega)).1
  have all : ∀ x ∈ nTab, 0 ≤ x ∧ x ≤ 2305843009213693952 := by decide
  exact all _ q
theorem lfOf_ok (c : Int) {k : Nat} (h1 : 1 ≤ k) (h3 : k ≤ 3) : LfOk k (lfOf c k) := by
  have r := fmod_rng (c.fdiv 60000) (m := 4) (by decide)
  refine ⟨lawName_ok _, ?_, h1, h3, fun v hv => ?_, ?_, fun v hv => ?_⟩
  · show ((List.range k).map (wAt c)).length = k
    rw [List.length_map, List.length_range]
  · obtain ⟨j, _, e⟩ := List.mem_map.mp hv
    rw [← e]
    exact wAt_rng c j
  · show ((List.range ((c.fdiv 60000).fmod 4).toNat).map (nAt c)).length ≤ 12
    rw [List.length_map, List.length_range]
    omega
  · obtain ⟨j, _, e⟩ := List.mem_map.mp hv
    rw [← e]
    exact nAt_rng c j
theorem lawLeaves_ok (ns : List Int) (a : Int) {k : Nat} (h1 : 1 ≤ k) (h3 : k ≤ 3) : ∀ n, ∀ l ∈ lawLeaves ns a k n, LfOk k l
  | 0, l, h => by cases h
  | n + 1, l, h => by
    rcases putL_mem h with h | h
    · exact lawLeaves_ok ns a h1 h3 n l h
    · rw [h]
      exact lfOf_ok _ h1 h3
end SG

namespace SG
open PySem L2
section
variable {K : PySem.W.Frag} {H H' G : Hp} {σ : L2.St} {ρ ρ' : DEnv}
theorem Em.forget (m : Em K G σ ρ) (j : Nat) (v : V) : Em K G (σ.set j (some v)) (ρ.set j none) := by
  refine ⟨by rw [List.length_set, List.length_set]; exact m.1, fun i d q => ?_⟩
  by_cases c : j = i
  · subst c
    by_cases l : j < ρ.length
    · rw [List.getElem?_set_self l] at q
      cases q
    · rw [List.getElem?_eq_none (by rw [List.length_set]; omega)] at q
      cases q
  · rw [List.getElem?_set_ne c] at q
    rw [List.getElem?_set_ne c]
    exact m.2 i d q
theorem Em.know {j : Nat} {v : V} {d : D} (m : Em K G σ ρ) (h : σ[j]? = some (some v)) (hd : Den K G v d) : Em K G σ (ρ.set j (some d)) := by
  refine ⟨by rw [List.length_set]; exact m.1, fun i e q => ?_⟩
  by_cases c : j = i
  · subst c
    by_cases l : j < ρ.length
    · rw [List.getElem?_set_self l] at q
      cases q
      exact ⟨v, h, hd⟩
    · rw [List.getElem?_eq_none (by rw [List.length_set]; omega)] at q
      cases q
  · rw [List.getElem?_set_ne c] at q
    exact m.2 i e q
/-- an object at p that the data do not lean on has changed -/
theorem Gr.mut {G H G' H' : Hp} {p : Addr} {o : HO} (g : Gr G H G' H') (hp : H p = none) (gp : G' p = none) : Gr G H G' (upd H' p o) where
  h := fun a u e => by rw [upd_ne (ne_of_none e hp)]; exact g.h a u e
  g := g.g
  ok := fun a u e => by rw [upd_ne (ne_of_none e gp)]; exact g.ok a u e
  fr := g.fr
/-- .. and is now part of the data -/
theorem Gr.own {G H G' H' : Hp} {p : Addr} {o : HO} (g : Gr G H G' H') (hp : H p = none) (gp : G' p = none) (e : H' p = some o) : Gr G H (upd G' p o) H' where
  h := g.h
  g := fun a u q => by
    have n : G p = none := Same.free g.g gp
    rw [upd_ne (ne_of_none q n)]
    exact g.g a u q
  ok := fun a u q => by
    by_cases c : a = p
    · subst c
      rw [upd_same] at q
      rw [← q]
      exact e
    · rw [upd_ne c] at q
      exact g.ok a u q
  fr := fun a u q => by rw [upd_ne (ne_of_none q hp)]; exact g.fr a u q
/-- x_j = []; for x_i in range(n): x_j.append(e); x_l = e2 -/
theorem xs_grow {ta : TA} {te te2 : TE} {u : TS} {i j l : Nat} {N : Int} {o : Out} (I : Nat → DEnv) (out : Nat → List D) (h0 : out 0 = []) (hij : i ≠ j) (hlj : l ≠ j) (hN : 0 ≤ N ∧ N ≤ 100000) (hj : j < ρ.length)
    (hr : XA K ta (ρ.set j none) [.int N]) (hsub : Sub (ρ.set j none) (I 0))
    (hs : ∀ n : Nat, n < N.toNat → ∃ y y2, out (n + 1) = out n ++ [y] ∧ XE K te ((I n).set i (some (.int (n : Int)))) y ∧ XE K te2 ((I n).set i (some (.int (n : Int)))) y2 ∧ Sub (((I n).set i (some (.int (n : Int)))).set l (some y2)) (I (n + 1)))
    (hu : XS K u ((I N.toNat).set j (some (.lst (out N.toNat)))) o) :
    XS K (tSeq (tAsg (tLst tNil) (gName j)) (tSeq (tFor (iRng1 ta) (gName i) (tSeq (tDrop (tBM K "list" rAppend (tVar j) (tCons te tNil))) (tAsg te2 (gName l)))) u)) ρ o := fun σ G H E k m q => by
  refine ⟨Nat.zero_le _, fun p hp => ?_⟩
  have gp : G p = none := Same.free k hp
  have k1 : Same G (upd H p (.lst [])) := fun a u e => by rw [upd_ne (ne_of_none e gp)]; exact k a u e
  refine hr _ G _ k1 (m.forget j (.ref p)) _ fun vs G1 H1 s1 d1 => ?_
  cases d1 with
  | cons d1 dl =>
    cases dl
    cases d1
    have g1 : Gr G H G1 H1 := ⟨fun a u e => s1.h a u (by rw [upd_ne (ne_of_none e hp)]; exact e), s1.g, s1.ok, fun a u e => s1.fr a u (by rw [upd_ne (ne_of_none e hp)]; exact e)⟩
    have g1p : G1 p = none := (s1.fr p _ upd_same).trans gp
    have hl1 : j < σ.length := by rw [← m.1]; exact hj
    have out_len : ∀ n, n ≤ N.toNat → (out n).length = n := by
      intro n
      induction n with
      | zero => intro _; rw [h0]; rfl
      | succ n ih =>
        intro hn
        obtain ⟨y, y2, e, _⟩ := hs n (by omega)
        rw [e, List.length_append, ih (by omega)]
        rfl
    refine ⟨N, rfl, by omega, by omega, ?_⟩
    refine for_range (lo := 0) (n := N.toNat) (fun n σ' H' => n ≤ N.toNat ∧ ∃ G' vs, Gr G H G' H' ∧ G' p = none ∧ H' p = some (.lst vs) ∧ DenL K G' vs (out n) ∧ Em K G' σ' (I n) ∧ σ'[j]? = some (some (.ref p)))
      ⟨Nat.zero_le _, G1, [], g1, g1p, s1.h p _ upd_same, by rw [h0]; exact .nil, ((m.forget j (.ref p)).mono s1.g).sub hsub, List.getElem?_set_self hl1⟩ (fun n σ' H' hn ⟨hn2, G', vs, g, g2, l1, l2, em, sj⟩ => ?_) (fun σ' H' ⟨_, G', vs, g, g2, l1, l2, em, sj⟩ => ?_)
    · obtain ⟨y, y2, e, x1, x2, sb⟩ := hs n hn
      have ez : (0 : Int) + (n : Int) = (n : Int) := Int.zero_add _
      show (tSeq (tDrop (tBM K "list" rAppend (tVar j) (tCons te tNil))) (tAsg te2 (gName l))) _ (σ'.set i (some (.int (0 + (n : Int))))) H'
      rw [ez]
      have em2 : Em K G' (σ'.set i (some (.int (n : Int)))) ((I n).set i (some (.int (n : Int)))) := em.set (.int _)
      have sj2 : (σ'.set i (some (V.int (n : Int))))[j]? = some (some (.ref p)) := by rw [List.getElem?_set_ne hij]; exact sj
      refine ⟨_, sj2, .inl ⟨rfl, vs, SqL.of l1⟩, ?_⟩
      refine x1 _ G' H' g.ok em2 _ fun r G2 H2 s2 d2 => ?_
      have l3 : H2 p = some (.lst vs) := s2.h p _ l1
      have g2p : G2 p = none := (s2.fr p _ l1).trans g2
      have lv : vs.length < sizeLine := by
        rw [l2.length, out_len n hn2]
        exact Nat.lt_of_le_of_lt (show n ≤ 100000 by omega) (by decide)
      refine ⟨p, vs, r, rfl, rfl, l3, lv, ?_⟩
      have g3 : Gr G H G2 (upd H2 p (.lst (vs ++ [r]))) := (g.trans s2).mut hp g2p
      refine x2 _ G2 _ g3.ok (em2.mono s2.g) _ fun r2 G4 H4 s4 d4 => ?_
      have g4p : G4 p = none := (s4.fr p _ upd_same).trans g2p
      refine ⟨hn, G4, vs ++ [r], g3.trans s4, g4p, s4.h p _ upd_same, ?_, (((em2.mono s2.g).mono s4.g).set d4).sub sb, ?_⟩
      · rw [e]
        exact (l2.mono (s2.g.trans s4.g)).append (.cons (d2.mono s4.g) .nil)
      · rw [List.getElem?_set_ne hlj]
        exact sj2
    · have g5 : Gr G H (upd G' p (.lst vs)) H' := g.own hp g2 l1
      refine hu σ' (upd G' p (.lst vs)) H' E g5.ok ((em.mono (same_new g2 _)).know sj (.lst upd_same (l2.mono (same_new g2 _)))) (q.mono g5)
theorem pe_appK {X : Cx} {o e : Expr} {es : List Expr} {apos cpos : Pos} {te : TE} {t : TA} (h : X.K = K) (hb : PE X (.Call (.Attribute o "append" apos) (e :: es) [] cpos) (tBM X.K "list" rAppend te t)) : PE X (.Call (.Attribute o "append" apos) (e :: es) [] cpos) (tBM K "list" rAppend te t) := by subst h; exact hb
/-- [e for x in l if t], l a list of what encodes the items of ls -/
theorem xe_filter {α : Type} {wi : TI} {n : Nat} {tt : TT} {te : TE} {ls : List α} (enc enc' : α → D) (p : α → Bool) (hi : XI K wi ρ (ls.map enc)) (hz : ls.length ≤ 100000)
    (hs : ∀ x ∈ ls, XT K tt ((ρ.set n none).set n (some (enc x))) (p x) ∧ (p x = true → XE K te ((ρ.set n none).set n (some (enc x))) (enc' x))) : XE K (tLc wi (gName n) tt te [n]) ρ (.lst ((ls.filter p).map enc')) := by
  have h := xe_lc0 (K := K) (ρ := ρ) (te := te) (wi := wi) (n := n) (tt := tt) (fun m => ((ls.take m).filter p).map enc') rfl hi (by rw [List.length_map]; exact hz) fun m d e => by
    rw [List.getElem?_map] at e
    cases ex : ls[m]? with
    | none => rw [ex] at e; cases e
    | some x =>
      rw [ex] at e
      cases e
      obtain ⟨h1, h2⟩ := hs x (List.mem_of_getElem? ex)
      refine ⟨p x, h1, fun c => ⟨enc' x, ?_, h2 c⟩, fun c => ?_⟩
      · rw [take_snoc ex, List.filter_append, List.map_append, List.filter_cons_of_pos c]
        rfl
      · rw [take_snoc ex, List.filter_append, List.map_append, List.filter_cons_of_neg (by rw [c]; decide)]
        exact List.append_nil _
  rw [List.length_map, List.take_length] at h
  exact h
theorem xe_mapl {α : Type} {wi : TI} {n : Nat} {te : TE} {ls : List α} (enc enc' : α → D) (hi : XI K wi ρ (ls.map enc)) (hz : ls.length ≤ 100000)
    (hs : ∀ x ∈ ls, XE K te ((ρ.set n none).set n (some (enc x))) (enc' x)) : XE K (tLc wi (gName n) tYes te [n]) ρ (.lst (ls.map enc')) := by
  have h := xe_filter (K := K) (ρ := ρ) (te := te) (n := n) (tt := tYes) enc enc' (fun _ => true) hi hz fun x hx => ⟨xt_yes, fun _ => hs x hx⟩
  have e : ls.filter (fun _ => true) = ls := List.filter_eq_self.mpr fun _ _ => rfl
  rw [e] at h
  exact h
end
end SG

namespace SG
open PySem L2
/-! ### dicts -/
def getK : List (Str × D) → Str → Option D
  | [], _ => none
  | (y, d) :: r, x => if y = x then some d else getK r x
def putD (kvs : List (Str × D)) (x : Str) (d : D) : List (Str × D) := if (kvs.any fun kv => decide (kv.1 = x)) = true then kvs.map (fun kv => if kv.1 = x then (kv.1, d) else kv) else kvs ++ [(x, d)]
section
variable {K : PySem.W.Frag} {H H' G : Hp} {σ : L2.St} {ρ ρ' : DEnv}
theorem denK_none {kxs : List (Key × V)} {kvs : List (Str × D)} {x : Str} (h : DenK K H kxs kvs) (e : getK kvs x = none) : valV kxs (Sum.inr x : Key) = none := by
  induction kvs generalizing kxs with
  | nil => cases h; rfl
  | cons p r ih =>
    obtain ⟨y, d⟩ := p
    cases h with
    | cons hd hr =>
      unfold getK at e
      by_cases c : y = x
      · rw [if_pos c] at e
        cases e
      · rw [if_neg c] at e
        rw [valV_neg (fun z => c (Sum.inr.inj z))]
        exact ih hr e
theorem denK_some {kxs : List (Key × V)} {kvs : List (Str × D)} {x : Str} {d : D} (h : DenK K H kxs kvs) (e : getK kvs x = some d) : ∃ v, valV kxs (Sum.inr x : Key) = some v ∧ Den K H v d := by
  induction kvs generalizing kxs with
  | nil => cases e
  | cons p r ih =>
    obtain ⟨y, d'⟩ := p
    cases h with
    | cons hd hr =>
      unfold getK at e
      by_cases c : y = x
      · rw [if_pos c] at e
        cases e
        exact ⟨_, valV_pos (congrArg Sum.inr c), hd⟩
      · rw [if_neg c] at e
        rw [valV_neg (fun z => c (Sum.inr.inj z))]
        exact ih hr e
theorem denK_any {kxs : List (Key × V)} {kvs : List (Str × D)} (x : Str) (h : DenK K H kxs kvs) : (kxs.any fun kv => decide (kv.1 = (Sum.inr x : Key))) = kvs.any fun kv => decide (kv.1 = x) := by
  induction kvs generalizing kxs with
  | nil => cases h; rfl
  | cons p r ih =>
    obtain ⟨y, d'⟩ := p
    cases h with
    | cons hd hr =>
      rw [List.any_cons, List.any_cons, ih hr]
      refine congrArg (· || _) ?_
      exact decide_eq_decide.mpr ⟨fun z => Sum.inr.inj z, fun z => congrArg Sum.inr z⟩
theorem denK_map {kxs : List (Key × V)} {kvs : List (Str × D)} {x : Str} {v : V} {d : D} (h : DenK K H kxs kvs) (hv : Den K H v d) : DenK K H (kxs.map fun kv => if kv.1 = (Sum.inr x : Key) then (kv.1, v) else kv) (kvs.map fun kv => if kv.1 = x then (kv.1, d) else kv) := by
  induction kvs generalizing kxs with
  | nil => cases h; exact .nil
  | cons p r ih =>
    obtain ⟨y, d'⟩ := p
    cases h with
    | cons hd hr =>
      rw [List.map_cons, List.map_cons]
      by_cases c : y = x
      · rw [if_pos (show (Sum.inr y : Key) = Sum.inr x from congrArg Sum.inr c), if_pos c]
        exact .cons hv (ih hr)
      · rw [if_neg (fun z : (Sum.inr y : Key) = Sum.inr x => c (Sum.inr.inj z)), if_neg c]
        exact .cons hd (ih hr)
theorem denK_app {kxs : List (Key × V)} {kvs : List (Str × D)} {x : Str} {v : V} {d : D} (h : DenK K H kxs kvs) (hv : Den K H v d) : DenK K H (kxs ++ [(Sum.inr x, v)]) (kvs ++ [(x, d)]) := by
  induction kvs generalizing kxs with
  | nil => cases h; exact .cons hv .nil
  | cons p r ih =>
    obtain ⟨y, d'⟩ := p
    cases h with
    | cons hd hr => exact .cons hd (ih hr)
theorem denK_put {kxs : List (Key × V)} {kvs : List (Str × D)} {x : Str} {v : V} {d : D} (h : DenK K H kxs kvs) (hv : Den K H v d) : DenK K H (putK kxs (Sum.inr x) v) (putD kvs x d) := by
  unfold putK putD
  rw [denK_any x h]
  split
  · exact denK_map h hv
  · exact denK_app h hv
theorem DenK.length {kxs : List (Key × V)} {kvs : List (Str × D)} (h : DenK K H kxs kvs) : kxs.length = kvs.length := by
  induction kvs generalizing kxs with
  | nil => cases h; rfl
  | cons p r ih =>
    cases h with
    | cons hd hr => exact congrArg (· + 1) (ih hr)
theorem denK_keys {kxs : List (Key × V)} {kvs : List (Str × D)} (h : DenK K H kxs kvs) : kxs.map (·.1) = (kvs.map (·.1)).map Sum.inr := by
  induction kvs generalizing kxs with
  | nil => cases h; rfl
  | cons p r ih =>
    cases h with
    | cons hd hr =>
      rw [List.map_cons, List.map_cons, List.map_cons, ih hr]
theorem denK_vals {kxs : List (Key × V)} {kvs : List (Str × D)} (h : DenK K H kxs kvs) : DenL K H (kxs.map (·.2)) (kvs.map (·.2)) := by
  induction kvs generalizing kxs with
  | nil => cases h; exact .nil
  | cons p r ih =>
    cases h with
    | cons hd hr => exact .cons hd (ih hr)
/-- d[x], there -/
theorem xe_dget {td ty : TE} {kvs : List (Str × D)} {x : Str} {d : D} (h1 : XE K td ρ (.dct kvs)) (h2 : XE K ty ρ (.str x)) (e : getK kvs x = some d) : XE K (tDGet td ty) ρ d := fun σ G H k m Q q =>
  h1 σ G H k m _ fun a G1 H1 s1 d1 => h2 σ G1 H1 s1.ok (m.mono s1.g) _ fun y G2 H2 s2 d2 => by
    cases d2
    cases d1 with
    | dct hd hk =>
      obtain ⟨v, e1, hv⟩ := denK_some (hk.mono s2.g) e
      refine ⟨_, v, rfl, ?_, q v G2 H2 (s1.trans s2) hv⟩
      rw [← e1]
      exact DGet.k (k := Sum.inr x) (s2.ok _ _ (s2.g _ _ hd))
/-- d.get(x) -/
theorem xe_dget1 {td ty : TE} {kvs : List (Str × D)} {x : Str} (h1 : XE K td ρ (.dct kvs)) (h2 : XE K ty ρ (.str x)) : XE K (tDGet1 td ty) ρ ((getK kvs x).getD .non) := fun σ G H k m Q q =>
  h1 σ G H k m _ fun a G1 H1 s1 d1 => by
    cases d1 with
    | dct hd hk =>
      refine ⟨_, rfl, .inl ⟨_, .inl (s1.ok _ _ hd)⟩, h2 σ G1 H1 s1.ok (m.mono s1.g) _ fun y G2 H2 s2 d2 => ?_⟩
      cases d2
      have hd2 := s2.ok _ _ (s2.g _ _ hd)
      cases e : getK kvs x with
      | none =>
        rw [e] at q
        have e1 := denK_none (hk.mono s2.g) e
        refine ⟨none, ?_, q .non G2 H2 (s1.trans s2) .non⟩
        rw [← e1]
        exact DGet.k (k := Sum.inr x) hd2
      | some d =>
        rw [e] at q
        obtain ⟨v, e1, hv⟩ := denK_some (hk.mono s2.g) e
        refine ⟨some v, ?_, q v G2 H2 (s1.trans s2) hv⟩
        rw [← e1]
        exact DGet.k (k := Sum.inr x) hd2
abbrev rSortedD : List V → Hp → VK → Prop := fun xs H Q => ∃ (a : Addr) (kvs : List (Key × V)) (ks : List Str), xs = [.ref a] ∧ Rd H a (.dK kvs) ∧ kvs.map (·.1) = ks.map Sum.inr ∧ ks.length < 64 ∧ ∀ ys p, ys.Perm ks → PyProof.Rows.sortedS ys = true → H p = none → Q (.ref p) (upd H p (.lst (ys.map V.str)))
theorem xc_sortedD {kvs : List (Str × D)} {zs : List Str} (hl : kvs.length < 64) (hz : ∀ ys : List Str, ys.Perm (kvs.map (·.1)) → PyProof.Rows.sortedS ys = true → ys = zs) : XC K rSortedD [.dct kvs] (.lst (zs.map .str)) := fun xs G H k h Q q => by
  cases h with
  | cons h l =>
    cases l
    cases h with
    | dct hd hk =>
      refine ⟨_, _, kvs.map (·.1), rfl, .inl (k _ _ hd), denK_keys hk, by rw [List.length_map]; exact hl, fun ys p hp hs hn => ?_⟩
      rw [hz ys hp hs]
      exact q _ _ _ (Gr.new k hn _) (Den.new_lst DenL.strs (Same.free k hn))
/-- [d[x] for x in d] -/
theorem xe_vals {i n : Nat} {kvs : List (Str × D)} (hv : ρ[i]? = some (some (.dct kvs))) (hin : i ≠ n) (hnd : (kvs.map (·.1)).Nodup) (hz : kvs.length ≤ 100000) (hn : n < ρ.length) :
    XE K (tLockE (tLc (iKeys (tVar i)) (gName n) tYes (tDGet (tVar i) (tVar n)) [n])) ρ (.lst (kvs.map (·.2))) := fun σ G H k m Q q => by
  obtain ⟨v, sv, dv⟩ := m.2 i _ hv
  cases dv with
  | @dct d kxs _ hd hk =>
    have hH : H d = some (.dK kxs) := k _ _ hd
    have hlen : kxs.length = kvs.length := hk.length
    have hkeys : (kxs.map (·.1)).Nodup := by
      rw [denK_keys hk]
      exact List.Pairwise.map _ (fun a b h e => h (Sum.inr.inj e)) hnd
    refine ⟨d, .dK kxs, hH, trivial, fun od => ⟨.ref d, sv, d, od, rfl, .inl ⟨kxs, upd_same, fun p hp => ?_⟩⟩⟩
    have hpd : p ≠ d := fun e => by
      rw [e, upd_same] at hp
      cases hp
    have hpH : H p = none := by rw [upd_ne hpd] at hp; exact hp
    have hpG : G p = none := Same.free k hpH
    refine lc_it (walk_keys (d := d) (o := od) (kvs := kxs)) (fun l H' => H' = upd (upd H d (.frz od (.dK kxs))) p (.lst ((kxs.take l).map (·.2)))) rfl (fun l H' _ e => by rw [e, upd_ne (Ne.symm hpd), upd_same]) (fun l x H' H2 hl e y => ?_) (fun H' e => ?_)
    · obtain ⟨e2, key, v, ek, rfl⟩ := y
      subst e2
      subst e
      refine ⟨set3 σ n none _ none, ?_⟩
      have hnl : n < (σ.set n none).length := by rw [List.length_set, ← m.1]; exact hn
      have g1 : ((σ.set n none).set n (some (kV key)))[i]? = some (some (.ref d)) := by rw [List.getElem?_set_ne (Ne.symm hin), List.getElem?_set_ne (Ne.symm hin)]; exact sv
      have g2 : ((σ.set n none).set n (some (kV key)))[n]? = some (some (kV key)) := List.getElem?_set_self hnl
      have ev : valV kxs key = some v := by
        have : ∀ (l : List (Key × V)) (l0 : Nat), (l.map (·.1)).Nodup → l[l0]? = some (key, v) → valV l key = some v := by
          intro l
          induction l with
          | nil => intro l0 _ e; simp at e
          | cons a r ih =>
            intro l0 nd e
            rw [List.map_cons] at nd
            obtain ⟨nd1, nd2⟩ := List.nodup_cons.mp nd
            cases l0 with
            | zero =>
              simp at e
              subst e
              exact valV_pos rfl
            | succ l0 =>
              have e' : r[l0]? = some (key, v) := by simpa using e
              have hne : ¬ a.1 = key := fun z => nd1 (by rw [z]; exact List.mem_map.mpr ⟨(key, v), List.mem_of_getElem? e', rfl⟩)
              rw [valV_neg hne]
              exact ih l0 nd2 e'
        exact this kxs l hkeys ek
      refine ⟨.ref d, g1, kV key, g2, d, v, rfl, ?_, (kxs.take l).map (·.2), upd_same, ?_, ?_⟩
      · refine .inl ⟨kxs, key, .inr ⟨od, ?_⟩, rfl, ev.symm⟩
        rw [upd_ne (Ne.symm hpd), upd_same]
      · rw [List.length_map, List.length_take]
        exact Nat.lt_of_le_of_lt (show min l kxs.length ≤ 100000 by omega) (by decide)
      · rw [upd_upd, take_snoc ek, List.map_append]
        rfl
    · rw [List.take_length] at e
      subst e
      have fin : upd (upd (upd H d (.frz od (.dK kxs))) p (.lst (kxs.map (·.2)))) d (.dK kxs) = upd H p (.lst (kxs.map (·.2))) := by
        funext b
        by_cases c1 : b = d
        · subst c1
          rw [upd_same, upd_ne (Ne.symm hpd), hH]
        · rw [upd_ne c1]
          by_cases c2 : b = p
          · subst c2
            rw [upd_same, upd_same]
          · rw [upd_ne c2, upd_ne c1, upd_ne c2]
      refine ⟨by rw [upd_ne (Ne.symm hpd), upd_same], ?_⟩
      rw [fin]
      exact q _ _ _ (Gr.new k hpH _) (Den.new_lst (denK_vals hk) hpG)
/-- x_j = {}; for x_i in range(n): s1; s2; s3; s4; x_j[e] = e2 -/
theorem xs_dictfor {ta : TA} {ty tv : TE} {s1 s2 s3 s4 u : TS} {i j : Nat} {N : Int} {o : Out} (I : Nat → DEnv) (kv : Nat → List (Str × D)) (h0 : kv 0 = []) (hij : i ≠ j) (hN : 0 ≤ N ∧ N ≤ 1000) (hj : j < ρ.length) (hkl : ∀ n, (kv n).length ≤ n)
    (hr : ∀ r, XA K ta (ρ.set j (some (.raw r))) [.int N]) (hsub : ∀ r, Sub (ρ.set j (some (.raw r))) ((I 0).set j (some (.raw r))))
    (hs : ∀ (r : V) (n : Nat), n < N.toNat → ∃ x y ρ1 ρ2 ρ3 ρ4, kv (n + 1) = putD (kv n) x y ∧ XS K s1 (((I n).set j (some (.raw r))).set i (some (.int (n : Int)))) (.nx ρ1) ∧ XS K s2 ρ1 (.nx ρ2) ∧ XS K s3 ρ2 (.nx ρ3) ∧ XS K s4 ρ3 (.nx ρ4) ∧
      XE K tv ρ4 y ∧ XE K ty ρ4 (.str x) ∧ ρ4[j]? = some (some (.raw r)) ∧ Sub ρ4 ((I (n + 1)).set j (some (.raw r))))
    (hu : XS K u ((I N.toNat).set j (some (.dct (kv N.toNat)))) o) (hjI : j < (I N.toNat).length) :
    XS K (tSeq (tAsg tDNewK (gName j)) (tSeq (tFor (iRng1 ta) (gName i) (tSeq s1 (tSeq s2 (tSeq s3 (tSeq s4 (sDPut (tVar j) ty tv)))))) u)) ρ o := fun σ G H E k m q => by
  intro p hp
  have gp : G p = none := Same.free k hp
  have k1 : Same G (upd H p (.dK [])) := fun a u e => by rw [upd_ne (ne_of_none e gp)]; exact k a u e
  have m1 : Em K G (σ.set j (some (.ref p))) (ρ.set j (some (.raw (.ref p)))) := m.set (.raw _)
  refine hr (.ref p) _ G _ k1 m1 _ fun vs G1 H1 t1 d1 => ?_
  cases d1 with
  | cons d1 dl =>
    cases dl
    cases d1
    have g1 : Gr G H G1 H1 := ⟨fun a u e => t1.h a u (by rw [upd_ne (ne_of_none e hp)]; exact e), t1.g, t1.ok, fun a u e => t1.fr a u (by rw [upd_ne (ne_of_none e hp)]; exact e)⟩
    have g1p : G1 p = none := (t1.fr p _ upd_same).trans gp
    refine ⟨N, rfl, by omega, by omega, ?_⟩
    refine for_range (lo := 0) (n := N.toNat) (fun n σ' H' => n ≤ N.toNat ∧ ∃ G' kxs, Gr G H G' H' ∧ G' p = none ∧ H' p = some (.dK kxs) ∧ DenK K G' kxs (kv n) ∧ Em K G' σ' ((I n).set j (some (.raw (.ref p)))))
      ⟨Nat.zero_le _, G1, [], g1, g1p, t1.h p _ upd_same, by rw [h0]; exact .nil, (m1.mono t1.g).sub (hsub _)⟩ (fun n σ' H' hn ⟨hn2, G', kxs, g, g2, l1, l2, em⟩ => ?_) (fun σ' H' ⟨_, G', kxs, g, g2, l1, l2, em⟩ => ?_)
    · obtain ⟨x, y, ρ1, ρ2, ρ3, ρ4, ek, x1, x2, x3, x4, xv, xy, e4, sb⟩ := hs (.ref p) n hn
      have ez : (0 : Int) + (n : Int) = (n : Int) := Int.zero_add _
      show (tSeq s1 (tSeq s2 (tSeq s3 (tSeq s4 (sDPut (tVar j) ty tv))))) _ (σ'.set i (some (.int (0 + (n : Int))))) H'
      rw [ez]
      refine x1 _ G' H' _ g.ok (em.set (.int _)) fun σ1 Ga Ha ta1 ma => ?_
      refine x2 _ Ga Ha _ ta1.ok ma fun σ2 Gb Hb tb1 mb => ?_
      refine x3 _ Gb Hb _ tb1.ok mb fun σ3 Gc Hc tc1 mc => ?_
      refine x4 _ Gc Hc _ tc1.ok mc fun σ4 Gd Hd td1 md => ?_
      refine xv _ Gd Hd td1.ok md _ fun r5 G5 H5 t5 d5 => ?_
      obtain ⟨v6, sv6, dv6⟩ := md.2 j _ e4
      cases dv6
      refine ⟨_, sv6, ?_⟩
      refine xy _ G5 H5 t5.ok (md.mono t5.g) _ fun r7 G7 H7 t7 d7 => ?_
      cases d7
      have al : Gr G' H' G7 H7 := ((((ta1.trans tb1).trans tc1).trans td1).trans t5).trans t7
      have l7 : H7 p = some (.dK kxs) := al.h p _ l1
      have g7p : G7 p = none := (al.fr p _ l1).trans g2
      have lk : kxs.length < sizeLine := by
        rw [l2.length]
        exact Nat.lt_of_le_of_lt (Nat.le_trans (hkl n) (show n ≤ 1000 by omega)) (by decide)
      refine ⟨p, _, rfl, DPut.k (k := Sum.inr x) l7 lk, ?_⟩
      refine ⟨hn, G7, _, (g.trans al).mut hp g7p, g7p, upd_same, ?_, (((md.mono t5.g).mono t7.g)).sub sb⟩
      rw [ek]
      exact denK_put (l2.mono al.g) (d5.mono t7.g)
    · have g5 : Gr G H (upd G' p (.dK kxs)) H' := g.own hp g2 l1
      have hj' : ((I N.toNat).set j (some (D.raw (.ref p))))[j]? = some (some (.raw (.ref p))) := List.getElem?_set_self hjI
      obtain ⟨v, sv, dv⟩ := em.2 j _ hj'
      cases dv
      have em2 := (em.mono (same_new g2 (.dK kxs))).know sv (.dct upd_same (l2.mono (same_new g2 _)))
      rw [List.set_set] at em2
      exact hu σ' (upd G' p (.dK kxs)) H' E g5.ok em2 (q.mono g5)
/-- [None] * k -/
theorem xr_rep1 {j : Int} (h : 0 ≤ j ∧ j ≤ 100000) : XR K rMulU (.lst [.non]) (.int j) (.lst (List.replicate j.toNat .non)) := xr_r fun u v G H k h1 h2 Q q => by
  cases h2
  cases h1 with
  | lst s l =>
    cases l with
    | cons d l =>
      cases l
      cases d
      refine ⟨_, j, _, rfl, rfl, k _ _ s, by omega, by omega, ?_, fun p hp => ?_⟩
      · exact Nat.le_trans (show 1 * j.toNat ≤ 100000 by omega) (by decide)
      · have e : (List.replicate j.toNat [V.non]).flatten = List.replicate j.toNat V.non := List.flatten_replicate_singleton
        rw [e]
        refine q _ _ _ (Gr.new k hp _) (Den.new_lst ?_ (Same.free k hp))
        have g : ∀ n : Nat, DenL K G (List.replicate n V.non) (List.replicate n D.non) := by
          intro n
          induction n with
          | zero => exact .nil
          | succ n ih => exact .cons .non ih
        exact g _
theorem getK_kvs (ls : List Lf) (x : Str) : getK (kvsOf ls) x = (getL ls x).map encL := by
  induction ls with
  | nil => rfl
  | cons l r ih =>
    show (if l.nm = x then some (encL l) else getK (kvsOf r) x) = (if l.nm = x then some l else getL r x).map encL
    by_cases c : l.nm = x
    · rw [if_pos c, if_pos c]
      rfl
    · rw [if_neg c, if_neg c, ih]
theorem getL_mem {ls : List Lf} (hn : (ls.map Lf.nm).Nodup) {l : Lf} (h : l ∈ ls) : getL ls l.nm = some l := by
  induction ls with
  | nil => cases h
  | cons a r ih =>
    rw [List.map_cons] at hn
    obtain ⟨n1, n2⟩ := List.nodup_cons.mp hn
    show (if a.nm = l.nm then some a else getL r l.nm) = some l
    rcases List.mem_cons.mp h with e | h
    · rw [e, if_pos rfl]
    · rw [if_neg (fun e => n1 (by rw [e]; exact List.mem_map.mpr ⟨l, h, rfl⟩))]
      exact ih n2 h
theorem kvs_names (ls : List Lf) : (kvsOf ls).map (·.1) = ls.map Lf.nm := by
  unfold kvsOf
  rw [List.map_map]
  rfl
theorem encA_optS (o : Option (List Int)) : encA (optS o) = encR o := by cases o <;> rfl
end
end SG

namespace SG
open PySem L2
local macro_rules | `(tactic| walk_at "xR") => `(tactic| first
  | ((with_reducible show Rnum _ _); exact ⟨_, by assumption, rfl, rfl⟩)
  | ((with_reducible show Rbit _ _); exact ⟨_, _, by assumption, by first | assumption | decide | omega, rfl, rfl⟩)
  | ((with_reducible show Rpart _ _); exact ⟨_, _, by assumption, by assumption, rfl, rfl⟩)
  | ((with_reducible show Risn _ _); exact ⟨_, by assumption, rfl, rfl⟩)
  | ((with_reducible show Rleast _ _); exact ⟨_, _, by assumption, rfl, rfl⟩)
  | ((with_reducible show Rgreat _ _); exact ⟨_, _, by assumption, rfl, rfl⟩)
  | ((with_reducible show RlfRow _ _); exact ⟨_, _, by assumption, rfl, rfl⟩)
  | ((with_reducible show RsmNums _ _); exact ⟨_, _, by assumption, rfl, rfl⟩)
  | ((with_reducible show RbrRow _ _); exact ⟨_, _, _, by assumption, by assumption, rfl, rfl⟩)
  | ((with_reducible show RbrSm _ _ _); exact ⟨_, _, _, _, by assumption, by assumption, by assumption, rfl, rfl⟩)
  | ((with_reducible show Rworths _ _); exact ⟨_, by assumption, by assumption, rfl, rfl⟩)
  | ((with_reducible show Rnotes _ _); exact ⟨_, by assumption, by assumption, rfl, rfl⟩)
  | ((with_reducible show RisLeaf _ _); exact ⟨_, _, by assumption, rfl, rfl⟩)
  | ((with_reducible show RareSides _ _); exact ⟨_, _, _, by assumption, by assumption, rfl, rfl⟩)
  | ((with_reducible show RisIn _ _); exact ⟨_, _, _, _, by assumption, by assumption, rfl, rfl⟩)
  | ((with_reducible show Rsl _ _ _); exact ⟨_, _, by assumption, by first | assumption | omega, rfl, rfl⟩)
  | ((with_reducible show Rsumm _ _ _ _); exact ⟨_, _, _, by assumption, by assumption, by first | assumption | omega, rfl, rfl⟩)
  | ((with_reducible show Rtop _ _ _ _); exact ⟨_, _, _, by assumption, by assumption, rfl, rfl⟩)
  | ((with_reducible show Rroot _ _ _ _); exact ⟨_, _, _, by assumption, by assumption, rfl, rfl⟩)
  | ((with_reducible show Rkinds _ _ _); exact ⟨_, _, by assumption, by first | assumption | omega, rfl, rfl⟩)
  | ((with_reducible show Rvalid _ _ _ _); exact ⟨_, _, _, by assumption, by first | assumption | omega, rfl, rfl⟩)
  | ((with_reducible show Rorder _ _ _); exact ⟨_, _, by assumption, by first | assumption | omega, rfl, rfl⟩)
  | ((with_reducible show Rwf _ _ _ _); exact ⟨_, _, _, by assumption, rfl, rfl⟩)
  | ((with_reducible show RleafT _ _); exact ⟨_, _, _, by assumption, by assumption, rfl, rfl⟩)
  | ((with_reducible show RrangeT _ _); exact ⟨_, _, _, _, by assumption, by assumption, by assumption, rfl, rfl⟩)
  | ((with_reducible show RrankT _ _); exact ⟨_, _, _, by assumption, by assumption, rfl, rfl⟩)
  | ((with_reducible show RplaceT _ _); exact ⟨_, _, _, by assumption, rfl, rfl⟩)
  | ((with_reducible show RnextT _ _); exact ⟨_, _, _, by assumption, by assumption, rfl, rfl⟩)
  | ((with_reducible show Rtold _ _); exact ⟨_, _, _, by assumption, by assumption, by assumption, rfl, rfl⟩)
  | ((with_reducible show RsideQ _ _); exact ⟨_, _, _, _, by assumption, by assumption, by assumption, rfl, rfl⟩)
  | ((with_reducible show Rjoin _ _); exact ⟨_, _, _, _, _, by assumption, by assumption, by assumption, rfl, rfl⟩)
  | ((with_reducible show Rempty _ _); exact ⟨_, by assumption, rfl, rfl⟩)
  | ((with_reducible show Rask0 _ _ _ _); exact ⟨_, _, _, _, by assumption, by assumption, by assumption, by assumption, rfl, rfl⟩)
  | ((with_reducible show Rcell _ _); exact ⟨_, _, by assumption, by first | assumption | omega, rfl, rfl⟩)
  | ((with_reducible show Rname _ _); exact ⟨_, rfl, rfl⟩)
  | ((with_reducible show Rmod _ _); exact ⟨_, rfl, rfl⟩)
  | ((with_reducible show Rlsl _ _); exact ⟨_, _, by assumption, by first | assumption | omega, rfl, rfl⟩)
  | ((with_reducible show Rlrow _ _ _); exact ⟨_, _, _, by assumption, by assumption, by first | assumption | omega, rfl, rfl⟩)
  | ((with_reducible show Rlsum _ _ _); exact ⟨_, _, _, by assumption, by assumption, by first | assumption | omega, rfl, rfl⟩)
  | ((with_reducible show Rltop _ _ _); exact ⟨_, _, _, by assumption, by assumption, rfl, rfl⟩)
  | ((with_reducible show Rlroot _ _ _); exact ⟨_, _, _, by assumption, by assumption, rfl, rfl⟩)
  | ((with_reducible show Rbits _ _); exact ⟨_, by assumption, rfl, rfl⟩)
  | ((with_reducible show Rquest _ _); exact ⟨_, rfl, rfl⟩)
  | ((with_reducible show Rsums _ _); exact ⟨_, _, by assumption, by first | assumption | omega, rfl, rfl⟩)
  | skip)
local macro_rules | `(tactic| walk_at "sub") => `(tactic| repeat first | exact sub_nil | refine sub_none ?_ | refine sub_same ?_)
local macro_rules | `(tactic| walk_at "xl") => `(tactic| first | decide | (simp only [List.length_cons, List.length_nil, List.length_append, List.length_map]; omega) | skip)
local macro_rules | `(tactic| walk_at "xr") => `(tactic| first
  | with_reducible exact xr_addI | with_reducible exact xr_sub | with_reducible exact xr_eqS | with_reducible exact xr_eqI | with_reducible exact xr_isN | with_reducible exact xr_notN
  | with_reducible exact xr_ltI | with_reducible exact xr_leI | with_reducible exact xr_gtI | with_reducible exact xr_geI | with_reducible exact xr_neS | with_reducible exact xr_neI
  | with_reducible exact xr_ltS | with_reducible exact xr_leS | with_reducible exact xr_gtS | with_reducible exact xr_inC | with_reducible exact xr_xor
  | ((with_reducible apply xr_ixTi); (next => decide); (next => exact rfl))
  | ((with_reducible apply xr_ixLi); (next => decide); (next => exact rfl))
  | ((with_reducible apply xr_addT); walk_at "xl") | ((with_reducible apply xr_addL); walk_at "xl") | ((with_reducible apply xr_addS); walk_at "xl")
  | ((with_reducible apply xr_mulI); first | exact .inl ⟨by decide, by decide⟩ | exact .inr ⟨by decide, by decide⟩ | exact .inl ⟨by omega, by omega⟩ | exact .inr ⟨by omega, by omega⟩ | skip)
  | ((with_reducible apply xr_fdiv); first | exact ⟨by decide, by decide⟩ | exact ⟨by omega, by omega⟩ | skip) | ((with_reducible apply xr_mod); first | assumption | decide | omega | skip) | ((with_reducible apply xr_shr); first | decide | omega | skip)
  | skip)
local macro_rules | `(tactic| walk_at "xc") => `(tactic| first
  | with_reducible exact xc_lenT | with_reducible exact xc_lenL | with_reducible exact xc_lenQ | with_reducible exact xc_int | with_reducible exact xc_abs | with_reducible exact xc_listT | with_reducible exact xc_tupL
  | ((with_reducible apply xc_lenS); first | assumption | omega | skip) | with_reducible exact xc_sum | with_reducible exact xc_all | skip)
local macro_rules | `(tactic| walk_at "xe") => `(tactic| first
  | ((with_reducible apply xe_var); exact rfl) | with_reducible exact xe_int | with_reducible exact xe_str | with_reducible exact xe_non | with_reducible exact xe_bl
  | ((with_reducible apply xe_op) <;> walk_at "x") | ((with_reducible apply xe_tup) <;> walk_at "x") | ((with_reducible apply xe_cb) <;> walk_at "x")
  | ((with_reducible apply xe_call) <;> walk_at "x") | ((with_reducible apply xe_lst) <;> walk_at "x")
  | ((with_reducible apply xe_meth) <;> walk_at "x") | ((with_reducible apply xe_bits) <;> walk_at "x") | ((with_reducible apply xe_not) <;> walk_at "x")
  | ((with_reducible apply xe_and) <;> walk_at "x") | ((with_reducible apply xe_or) <;> walk_at "x") | ((with_reducible apply xe_chain) <;> walk_at "x")
  | ((with_reducible apply xe_slT) <;> walk_at "x") | ((with_reducible apply xe_fld) <;> walk_at "x") | skip)
local macro_rules | `(tactic| walk_at "x") => `(tactic| first
  | ((with_reducible show XE _ _ _ _); walk_at "xe") | ((with_reducible show XR _ _ _ _ _); walk_at "xr") | ((with_reducible show XC _ _ _ _); walk_at "xc")
  | with_reducible exact xa_nil | ((with_reducible apply xa_cons) <;> walk_at "x")
  | ((with_reducible apply xt_test) <;> walk_at "x") | ((with_reducible apply xt_B) <;> walk_at "x") | ((with_reducible apply xt_and) <;> walk_at "x") | ((with_reducible apply xt_or) <;> walk_at "x")
  | ((with_reducible apply xt_not) <;> walk_at "x") | with_reducible exact xt_yes
  | with_reducible exact xo_none | ((with_reducible apply xo_some) <;> walk_at "x")
  | ((with_reducible show List.length _ ≤ 100000); walk_at "xl") | ((with_reducible show (_ == _) = false); decide +kernel) | ((with_reducible show Cls _ _); assumption) | ((with_reducible show NoAttr _ _ _); assumption) | ((with_reducible intro _); walk_at "x") | walk_at "xR")
local macro_rules | `(tactic| walk_at "if0") => `(tactic| (refine xs_ifs (b := false) (XT.to (by walk_at "x") (by decide +kernel)) (fun h => (by cases h)) fun _ => xs_nseq ?_))
local macro_rules | `(tactic| walk_at "if1") => `(tactic| (refine xs_ifs (b := true) (XT.to (by walk_at "x") (by decide +kernel)) (fun _ => xs_seqr ?_) fun h => (by cases h)))
local macro_rules | `(tactic| walk_at "ret") => `(tactic| ((refine xs_ret' (by walk_at "x") ?_); (first | done | rfl | skip)))

section
variable {P : Program} {w : World} {K : PySem.W.Frag} {mg : Str → Option Value} {base : Heap} {C eRow : Addr} {k : Nat}
abbrev s_number_of : Stmt := top 12
theorem sc_number_of : FnScope ["name", "number", "k"] ["name"] (defScope s_number_of) := ⟨rfl, rfl, rfl, by decide +kernel, rfl, by decide +kernel, by decide +kernel⟩
theorem dig_at {l : List Nat} {n c : Nat} (h : l[n]? = some c) : dig l n = alph.idxOf c + 1 := by unfold dig; rw [h]
theorem dig_no {l : List Nat} {n : Nat} (h : l[n]? = none) : dig l n = 0 := by unfold dig; rw [h]
theorem cps_len (s : Str) : s.length = s.cps.toList.length := by simp [Str.length]
theorem pr_number_of (F : DefAt K mg "number_of" s_number_of) (T : Txt K mg C eRow) : Pr P w K mg base (k + 1) "number_of" ["name"] (spD K Rnum) := by
  refine pr_mk F sc_number_of (fun _ _ _ _ _ _ us hl => match us, hl with | [_], _ => rfl) (fun ds d ⟨s, _, e, _⟩ => by rw [e]; rfl) fun f cdv A outer s0 H E hr => ⟨_, (pss_cons (ps_set (i := 1) sc_number_of.nd rfl (by first | exact .inl rfl | exact .inr rfl) (pe_int))
    (pss_cons (ps_for PassesOwn.never rfl (pi_range1 rfl T.range (pa_cons (pe_gI T.g_NAME_LIMIT rfl) pa_nil)) (pg_name (i := 2) sc_number_of.nd rfl (by first | exact .inl rfl | exact .inr rfl)) (pss_cons (ps_set (i := 1) sc_number_of.nd rfl (by first | exact .inl rfl | exact .inr rfl) (pe_op op_mulU (pv 1) (pe_int)))
    (pss_one (ps_if (pt_cmpR op_ltU (pv 2) (pe_callB (call_lenK (K := K) rfl) (by rfl) T.len PySem.boot_len (pa_cons (pv 0) pa_nil)) (nomark _)) (pss_one (ps_aug (i := 1) sc_number_of.nd rfl (.inl rfl) (pe_op (op_addK (K := K) rfl) (pe_sindexK (K := K) rfl (pe_bm PySem.F.plainAttrs_str PySem.F.slot_str_index PySem.F.type_str_index mt_sindex (pe_gS T.g_ALPHABET rfl) (pa_cons (pe_ix (ix_K (K := K) rfl) (pv 0) (pv 2) (fun _ _ => rfl)) pa_nil))) (pe_int)) ip_add)) pss_nil))))
    (pss_one (ps_ret (pv 1))))), ?_⟩
  rintro ds d ⟨s, hs, rfl, rfl⟩
  have hl := hs.lenS
  refine xs_seq (xs_set (by walk_at "x")) ?_
  refine xs_seq (xs_for (xi_range1 (by walk_at "x") (by decide)) (fun n => [some (.str s), some (.int (numTo s.cps.toList n : Nat)), none]) (by walk_at "sub") fun n d hd => ?_) ?_
  · obtain ⟨hn, rfl⟩ := rngD_get0 hd
    refine ⟨_, [some (.str s), some (.int (numTo s.cps.toList (n + 1) : Nat)), none], xg_name, ?_, Sub.refl _⟩
    refine xs_seq (xs_set (by walk_at "x")) ?_
    refine xs_if (by walk_at "x") (fun h => ?_) (fun h => ?_)
    · have h' : n < s.cps.toList.length := by
        have := of_decide_eq_true h
        rw [cps_len] at this
        omega
      have hc : s.cps.toList[n]? = some s.cps.toList[n] := List.getElem?_eq_getElem h'
      rw [numTo_succ, dig_at hc]
      exact (xs_aug rfl (xe_op (xe_sindex xe_str (xe_op (xe_var rfl) (xe_var rfl) (xr_ixS (Nat.le_trans hl (by decide)) hc)) (idx_alph _ (hs.at hc))) xe_int xr_addI)).weak (by walk_at "sub")
    · have h' : s.cps.toList.length ≤ n := by
        have := of_decide_eq_false h
        rw [cps_len] at this
        omega
      rw [numTo_succ, dig_no (List.getElem?_eq_none h')]
      refine xs_next.weak ?_
      refine sub_same (sub_eq ?_ (sub_none sub_nil))
      rw [Int.natCast_zero, Int.add_zero]
  · exact xs_ret' (by walk_at "x") rfl
abbrev s__law_number : Stmt := top 63
theorem sc__law_number : FnScope ["_law_name_here", "_law_letters", "_law_number_here", "_law_k", "_law_digit"] ["_law_name_here"] (defScope s__law_number) := ⟨rfl, rfl, rfl, by decide +kernel, rfl, by decide +kernel, by decide +kernel⟩
theorem pr__law_number (F : DefAt K mg "_law_number" s__law_number) (T : Txt K mg C eRow) : Pr P w K mg base (k + 1) "_law_number" ["_law_name_here"] (spD K Rnum) := by
  refine pr_mk F sc__law_number (fun _ _ _ _ _ _ us hl => match us, hl with | [_], _ => rfl) (fun ds d ⟨s, _, e, _⟩ => by rw [e]; rfl) fun f cdv A outer s0 H E hr => ⟨_, (pss_cons (ps_set (i := 1) sc__law_number.nd rfl (by first | exact .inl rfl | exact .inr rfl) (pe_str))
    (pss_cons (ps_set (i := 2) sc__law_number.nd rfl (by first | exact .inl rfl | exact .inr rfl) (pe_int))
    (pss_cons (ps_for PassesOwn.never rfl (pi_range1 rfl T.range (pa_cons (pe_int) pa_nil)) (pg_name (i := 3) sc__law_number.nd rfl (by first | exact .inl rfl | exact .inr rfl)) (pss_cons (ps_set (i := 4) sc__law_number.nd rfl (by first | exact .inl rfl | exact .inr rfl) (pe_int))
    (pss_cons (ps_if (pt_cmpR op_ltU (pv 3) (pe_callB (call_lenK (K := K) rfl) (by rfl) T.len PySem.boot_len (pa_cons (pv 0) pa_nil)) (nomark _)) (pss_one (ps_set (i := 4) sc__law_number.nd rfl (by first | exact .inl rfl | exact .inr rfl) (pe_op (op_addK (K := K) rfl) (pe_sindexK (K := K) rfl (pe_bm PySem.F.plainAttrs_str PySem.F.slot_str_index PySem.F.type_str_index mt_sindex (pv 1) (pa_cons (pe_ix (ix_K (K := K) rfl) (pv 0) (pv 3) (fun _ _ => rfl)) pa_nil))) (pe_int)))) pss_nil)
    (pss_one (ps_set (i := 2) sc__law_number.nd rfl (by first | exact .inl rfl | exact .inr rfl) (pe_op (op_addK (K := K) rfl) (pe_op op_mulU (pv 2) (pe_int)) (pv 4)))))))
    (pss_one (ps_ret (pv 2)))))), ?_⟩
  rintro ds d ⟨s, hs, rfl, rfl⟩
  have hl := hs.lenS
  refine xs_seq (xs_set (by walk_at "x")) ?_
  refine xs_seq (xs_set (by walk_at "x")) ?_
  refine xs_seq (xs_for (xi_range1 (by walk_at "x") (by decide)) (fun n => [some (.str s), some (.str alphS), some (.int (numTo s.cps.toList n : Nat)), none, none]) (by walk_at "sub") fun n d hd => ?_) ?_
  · obtain ⟨hn, rfl⟩ := rngD_get0 hd
    refine ⟨_, [some (.str s), some (.str alphS), some (.int (numTo s.cps.toList (n + 1) : Nat)), none, none], xg_name, ?_, Sub.refl _⟩
    refine xs_seq (xs_set (by walk_at "x")) ?_
    refine xs_seq (ρ1 := [some (.str s), some (.str alphS), some (.int (numTo s.cps.toList n : Nat)), none, some (.int (dig s.cps.toList n : Nat))]) ?_ ?_
    · refine xs_if (by walk_at "x") (fun h => ?_) (fun h => ?_)
      · have h' : n < s.cps.toList.length := by
          have := of_decide_eq_true h
          rw [cps_len] at this
          omega
        have hc : s.cps.toList[n]? = some s.cps.toList[n] := List.getElem?_eq_getElem h'
        rw [dig_at hc]
        exact (xs_set (xe_op (xe_sindex (xe_var rfl) (xe_op (xe_var rfl) (xe_var rfl) (xr_ixS (Nat.le_trans hl (by decide)) hc)) (idx_alph _ (hs.at hc))) xe_int xr_addI)).weak (by walk_at "sub")
      · have h' : s.cps.toList.length ≤ n := by
          have := of_decide_eq_false h
          rw [cps_len] at this
          omega
        rw [dig_no (List.getElem?_eq_none h')]
        exact xs_next.weak (by walk_at "sub")
    · rw [numTo_succ]
      exact (xs_set (by walk_at "x")).weak (by walk_at "sub")
  · exact xs_ret' (by walk_at "x") rfl
abbrev s_is_name : Stmt := top 11
theorem sc_is_name : FnScope ["value", "char"] ["value"] (defScope s_is_name) := ⟨rfl, rfl, rfl, by decide +kernel, rfl, by decide +kernel, by decide +kernel⟩
theorem bls_true (ds : List D) : ds.map (fun _ => D.bl true) = (ds.map fun _ => true).map .bl := by rw [List.map_map]; rfl
theorem all_true {α : Type} : ∀ ds : List α, (ds.map fun _ => true).all id = true
  | [] => rfl
  | _ :: l => all_true l
theorem pr_is_name (F : DefAt K mg "is_name" s_is_name) (T : Txt K mg C eRow) : Pr P w K mg base (k + 1) "is_name" ["value"] (spD K Risn) := by
  refine pr_mk F sc_is_name (fun _ _ _ _ _ _ us hl => match us, hl with | [_], _ => rfl) (fun ds d ⟨s, _, e, _⟩ => by rw [e]; rfl) fun f cdv A outer s0 H E hr => ⟨_, (pss_one (ps_ret (pe_and (pe_chain op_leU op_leU (pe_int) (pe_callB (call_lenK (K := K) rfl) (by rfl) T.len PySem.boot_len (pa_cons (pv 0) pa_nil)) (pe_gI T.g_NAME_LIMIT rfl)) (pe_one (pe_callB (call_allK (K := K) rfl rfl) (by rfl) T.all (by decide +kernel) (pa_cons (pe_lc (own := [("char", 1)]) rfl sc_is_name.nd (pi_str (pv 0)) (blkOk_by (by kernel_rfl)) (fun _ _ _ _ _ => (pg_name (i := 1) sc_is_name.nd rfl (by first | exact .inl rfl | exact .inr rfl))) (fun _ _ _ _ _ => pts_nil) (fun _ _ _ _ _ => (pe_cmpR op_in_sign (pv 1) (pe_gS T.g_ALPHABET rfl) rfl))) pa_nil)))))), ?_⟩
  rintro ds d ⟨s, hs, rfl, rfl⟩
  have hl := hs.lenS
  have h1 := hs.pos
  have hc := cps_len s
  have g1 : decide ((1 : Int) ≤ (s.length : Int)) = true := decide_eq_true (by omega)
  have g2 : decide ((s.length : Int) ≤ 8) = true := decide_eq_true (by omega)
  refine xs_ret' (xe_and (b := true) (by walk_at "x") fun _ => xe_cb (xa_cons (xe_lcm (fun _ => .bl true) (xi_str (by walk_at "x")) (by rw [List.length_map]; omega) fun m d hd => ?_) xa_nil) ?_) ?_
  · rw [List.getElem?_map] at hd
    cases e : s.cps.toList[m]? with
    | none => rw [e] at hd; cases hd
    | some c =>
      rw [e] at hd
      cases hd
      have q : decide (c ∈ alphS.cps.toList) = true := decide_eq_true (by rw [alphS_eq]; simpa using hs.at e)
      refine XE.to (by walk_at "x") ?_
      exact congrArg D.bl q
  · rw [bls_true]
    have z := xc_all (K := K) (ns := (s.cps.toList.map fun c => D.str ⟨#[c]⟩).map fun _ => true)
    rw [all_true] at z
    exact z
  · rw [g1, g2]
    rfl
abbrev s_bit_at : Stmt := top 13
theorem sc_bit_at : FnScope ["name", "place"] ["name", "place"] (defScope s_bit_at) := ⟨rfl, rfl, rfl, by decide +kernel, rfl, by decide +kernel, by decide +kernel⟩
theorem pr_bit_at (F : DefAt K mg "bit_at" s_bit_at) (T : Txt K mg C eRow) (h_number_of : Pr P w K mg base (k + 1) "number_of" ["name"] (spD K Rnum)) : Pr P w K mg base (k + 2) "bit_at" ["name", "place"] (spD K Rbit) := by
  refine pr_mk F sc_bit_at (fun _ _ _ _ _ _ us hl => match us, hl with | [_, _], _ => rfl) (fun ds d ⟨s, i, _, _, e, _⟩ => by rw [e]; rfl) fun f cdv A outer s0 H E hr => ⟨_, (pss_one (ps_ret (pe_op op_modN (pe_callTy call_int1 (by rfl) T.int (by decide +kernel) (pa_cons (pe_op op_shr (pe_callD h_number_of (hr.mono (by omega)) rfl (pa_cons (pv 0) pa_nil)) (pe_op op_sub (pe_op op_sub (pe_gI T.g_PLACES rfl) (pe_int)) (pv 1))) pa_nil)) (pe_int)))), ?_⟩
  rintro ds d ⟨s, i, hs, hi, rfl, rfl⟩
  refine xs_ret' (by walk_at "x") ?_
  rfl
abbrev s_parting : Stmt := top 14
theorem sc_parting : FnScope ["first", "second", "unlike"] ["first", "second"] (defScope s_parting) := ⟨rfl, rfl, rfl, by decide +kernel, rfl, by decide +kernel, by decide +kernel⟩
theorem pr_parting (F : DefAt K mg "parting" s_parting) (T : Txt K mg C eRow) (h_number_of : Pr P w K mg base (k + 1) "number_of" ["name"] (spD K Rnum)) : Pr P w K mg base (k + 2) "parting" ["first", "second"] (spD K Rpart) := by
  refine pr_mk F sc_parting (fun _ _ _ _ _ _ us hl => match us, hl with | [_, _], _ => rfl) (fun ds d ⟨s, i, _, _, e, _⟩ => by rw [e]; rfl) fun f cdv A outer s0 H E hr => ⟨_, (pss_cons (ps_set (i := 2) sc_parting.nd rfl (by first | exact .inl rfl | exact .inr rfl) (pe_op op_xor (pe_callD h_number_of (hr.mono (by omega)) rfl (pa_cons (pv 0) pa_nil)) (pe_callD h_number_of (hr.mono (by omega)) rfl (pa_cons (pv 1) pa_nil))))
    (pss_cons (ps_if (pt_cmpR op_eq (pv 2) (pe_int) (nomark _)) (pss_one (ps_ret (pe_non))) pss_nil)
    (pss_one (ps_ret (pe_op op_sub (pe_gI T.g_PLACES rfl) (pe_bits (pv 2))))))), ?_⟩
  rintro ds d ⟨a, b, ha, hb, rfl, rfl⟩
  refine xs_seq (xs_set (by walk_at "x")) ?_
  refine xs_ifs (by walk_at "x") (fun h => ?_) (fun h => ?_)
  · refine xs_seqr (xs_ret' (by walk_at "x") ?_)
    unfold partg
    rw [if_pos (of_decide_eq_true h)]
    rfl
  · refine xs_nseq (xs_ret' (by walk_at "x") ?_)
    unfold partg
    rw [if_neg (of_decide_eq_false h)]
    rfl
end
end SG

namespace SG
open PySem L2
local macro_rules | `(tactic| walk_at "xR") => `(tactic| first
  | ((with_reducible show Rnum _ _); exact ⟨_, by assumption, rfl, rfl⟩)
  | ((with_reducible show Rbit _ _); exact ⟨_, _, by assumption, by first | assumption | decide | omega, rfl, rfl⟩)
  | ((with_reducible show Rpart _ _); exact ⟨_, _, by assumption, by assumption, rfl, rfl⟩)
  | ((with_reducible show Risn _ _); exact ⟨_, by assumption, rfl, rfl⟩)
  | ((with_reducible show Rleast _ _); exact ⟨_, _, by assumption, rfl, rfl⟩)
  | ((with_reducible show Rgreat _ _); exact ⟨_, _, by assumption, rfl, rfl⟩)
  | ((with_reducible show RlfRow _ _); exact ⟨_, _, by assumption, rfl, rfl⟩)
  | ((with_reducible show RsmNums _ _); exact ⟨_, _, by assumption, rfl, rfl⟩)
  | ((with_reducible show RbrRow _ _); exact ⟨_, _, _, by assumption, by assumption, rfl, rfl⟩)
  | ((with_reducible show RbrSm _ _ _); exact ⟨_, _, _, _, by assumption, by assumption, by assumption, rfl, rfl⟩)
  | ((with_reducible show Rworths _ _); exact ⟨_, by assumption, by assumption, rfl, rfl⟩)
  | ((with_reducible show Rnotes _ _); exact ⟨_, by assumption, by assumption, rfl, rfl⟩)
  | ((with_reducible show RisLeaf _ _); exact ⟨_, _, by assumption, rfl, rfl⟩)
  | ((with_reducible show RareSides _ _); exact ⟨_, _, _, by assumption, by assumption, rfl, rfl⟩)
  | ((with_reducible show RisIn _ _); exact ⟨_, _, _, _, by assumption, by assumption, rfl, rfl⟩)
  | ((with_reducible show Rsl _ _ _); exact ⟨_, _, by assumption, by first | assumption | omega, rfl, rfl⟩)
  | ((with_reducible show Rsumm _ _ _ _); exact ⟨_, _, _, by assumption, by assumption, by first | assumption | omega, rfl, rfl⟩)
  | ((with_reducible show Rtop _ _ _ _); exact ⟨_, _, _, by assumption, by assumption, rfl, rfl⟩)
  | ((with_reducible show Rroot _ _ _ _); exact ⟨_, _, _, by assumption, by assumption, rfl, rfl⟩)
  | ((with_reducible show Rkinds _ _ _); exact ⟨_, _, by assumption, by first | assumption | omega, rfl, rfl⟩)
  | ((with_reducible show Rvalid _ _ _ _); exact ⟨_, _, _, by assumption, by first | assumption | omega, rfl, rfl⟩)
  | ((with_reducible show Rorder _ _ _); exact ⟨_, _, by assumption, by first | assumption | omega, rfl, rfl⟩)
  | ((with_reducible show Rwf _ _ _ _); exact ⟨_, _, _, by assumption, rfl, rfl⟩)
  | ((with_reducible show RleafT _ _); exact ⟨_, _, _, by assumption, by assumption, rfl, rfl⟩)
  | ((with_reducible show RrangeT _ _); exact ⟨_, _, _, _, by assumption, by assumption, by assumption, rfl, rfl⟩)
  | ((with_reducible show RrankT _ _); exact ⟨_, _, _, by assumption, by assumption, rfl, rfl⟩)
  | ((with_reducible show RplaceT _ _); exact ⟨_, _, _, by assumption, rfl, rfl⟩)
  | ((with_reducible show RnextT _ _); exact ⟨_, _, _, by assumption, by assumption, rfl, rfl⟩)
  | ((with_reducible show Rtold _ _); exact ⟨_, _, _, by assumption, by assumption, by assumption, rfl, rfl⟩)
  | ((with_reducible show RsideQ _ _); exact ⟨_, _, _, _, by assumption, by assumption, by assumption, rfl, rfl⟩)
  | ((with_reducible show Rjoin _ _); exact ⟨_, _, _, _, _, by assumption, by assumption, by assumption, rfl, rfl⟩)
  | ((with_reducible show Rempty _ _); exact ⟨_, by assumption, rfl, rfl⟩)
  | ((with_reducible show Rask0 _ _ _ _); exact ⟨_, _, _, _, by assumption, by assumption, by assumption, by assumption, rfl, rfl⟩)
  | ((with_reducible show Rcell _ _); exact ⟨_, _, by assumption, by first | assumption | omega, rfl, rfl⟩)
  | ((with_reducible show Rname _ _); exact ⟨_, rfl, rfl⟩)
  | ((with_reducible show Rmod _ _); exact ⟨_, rfl, rfl⟩)
  | ((with_reducible show Rlsl _ _); exact ⟨_, _, by assumption, by first | assumption | omega, rfl, rfl⟩)
  | ((with_reducible show Rlrow _ _ _); exact ⟨_, _, _, by assumption, by assumption, by first | assumption | omega, rfl, rfl⟩)
  | ((with_reducible show Rlsum _ _ _); exact ⟨_, _, _, by assumption, by assumption, by first | assumption | omega, rfl, rfl⟩)
  | ((with_reducible show Rltop _ _ _); exact ⟨_, _, _, by assumption, by assumption, rfl, rfl⟩)
  | ((with_reducible show Rlroot _ _ _); exact ⟨_, _, _, by assumption, by assumption, rfl, rfl⟩)
  | ((with_reducible show Rbits _ _); exact ⟨_, by assumption, rfl, rfl⟩)
  | ((with_reducible show Rquest _ _); exact ⟨_, rfl, rfl⟩)
  | ((with_reducible show Rsums _ _); exact ⟨_, _, by assumption, by first | assumption | omega, rfl, rfl⟩)
  | skip)
local macro_rules | `(tactic| walk_at "sub") => `(tactic| repeat first | exact sub_nil | refine sub_none ?_ | refine sub_same ?_)
local macro_rules | `(tactic| walk_at "xl") => `(tactic| first | decide | (simp only [List.length_cons, List.length_nil, List.length_append, List.length_map]; omega) | skip)
local macro_rules | `(tactic| walk_at "xr") => `(tactic| first
  | with_reducible exact xr_addI | with_reducible exact xr_sub | with_reducible exact xr_eqS | with_reducible exact xr_eqI | with_reducible exact xr_isN | with_reducible exact xr_notN
  | with_reducible exact xr_ltI | with_reducible exact xr_leI | with_reducible exact xr_gtI | with_reducible exact xr_geI | with_reducible exact xr_neS | with_reducible exact xr_neI
  | with_reducible exact xr_ltS | with_reducible exact xr_leS | with_reducible exact xr_gtS | with_reducible exact xr_inC | with_reducible exact xr_xor
  | ((with_reducible apply xr_ixTi); (next => decide); (next => exact rfl))
  | ((with_reducible apply xr_ixLi); (next => decide); (next => exact rfl))
  | ((with_reducible apply xr_addT); walk_at "xl") | ((with_reducible apply xr_addL); walk_at "xl") | ((with_reducible apply xr_addS); walk_at "xl")
  | ((with_reducible apply xr_mulI); first | exact .inl ⟨by decide, by decide⟩ | exact .inr ⟨by decide, by decide⟩ | exact .inl ⟨by omega, by omega⟩ | exact .inr ⟨by omega, by omega⟩ | skip)
  | ((with_reducible apply xr_fdiv); first | exact ⟨by decide, by decide⟩ | exact ⟨by omega, by omega⟩ | skip) | ((with_reducible apply xr_mod); first | assumption | decide | omega | skip) | ((with_reducible apply xr_shr); first | decide | omega | skip)
  | skip)
local macro_rules | `(tactic| walk_at "xc") => `(tactic| first
  | with_reducible exact xc_lenT | with_reducible exact xc_lenL | with_reducible exact xc_lenQ | with_reducible exact xc_int | with_reducible exact xc_abs | with_reducible exact xc_listT | with_reducible exact xc_tupL
  | ((with_reducible apply xc_lenS); first | assumption | omega | skip) | with_reducible exact xc_sum | with_reducible exact xc_all | skip)
local macro_rules | `(tactic| walk_at "xe") => `(tactic| first
  | ((with_reducible apply xe_var); exact rfl) | with_reducible exact xe_int | with_reducible exact xe_str | with_reducible exact xe_non | with_reducible exact xe_bl
  | ((with_reducible apply xe_op) <;> walk_at "x") | ((with_reducible apply xe_tup) <;> walk_at "x") | ((with_reducible apply xe_cb) <;> walk_at "x")
  | ((with_reducible apply xe_call) <;> walk_at "x") | ((with_reducible apply xe_lst) <;> walk_at "x")
  | ((with_reducible apply xe_meth) <;> walk_at "x") | ((with_reducible apply xe_bits) <;> walk_at "x") | ((with_reducible apply xe_not) <;> walk_at "x")
  | ((with_reducible apply xe_and) <;> walk_at "x") | ((with_reducible apply xe_or) <;> walk_at "x") | ((with_reducible apply xe_chain) <;> walk_at "x")
  | ((with_reducible apply xe_slT) <;> walk_at "x") | ((with_reducible apply xe_fld) <;> walk_at "x") | skip)
local macro_rules | `(tactic| walk_at "x") => `(tactic| first
  | ((with_reducible show XE _ _ _ _); walk_at "xe") | ((with_reducible show XR _ _ _ _ _); walk_at "xr") | ((with_reducible show XC _ _ _ _); walk_at "xc")
  | with_reducible exact xa_nil | ((with_reducible apply xa_cons) <;> walk_at "x")
  | ((with_reducible apply xt_test) <;> walk_at "x") | ((with_reducible apply xt_B) <;> walk_at "x") | ((with_reducible apply xt_and) <;> walk_at "x") | ((with_reducible apply xt_or) <;> walk_at "x")
  | ((with_reducible apply xt_not) <;> walk_at "x") | with_reducible exact xt_yes
  | with_reducible exact xo_none | ((with_reducible apply xo_some) <;> walk_at "x")
  | ((with_reducible show List.length _ ≤ 100000); walk_at "xl") | ((with_reducible show (_ == _) = false); decide +kernel) | ((with_reducible show Cls _ _); assumption) | ((with_reducible show NoAttr _ _ _); assumption) | ((with_reducible intro _); walk_at "x") | walk_at "xR")
local macro_rules | `(tactic| walk_at "if0") => `(tactic| (refine xs_ifs (b := false) (XT.to (by walk_at "x") (by decide +kernel)) (fun h => (by cases h)) fun _ => xs_nseq ?_))
local macro_rules | `(tactic| walk_at "if1") => `(tactic| (refine xs_ifs (b := true) (XT.to (by walk_at "x") (by decide +kernel)) (fun _ => xs_seqr ?_) fun h => (by cases h)))
local macro_rules | `(tactic| walk_at "ret") => `(tactic| ((refine xs_ret' (by walk_at "x") ?_); (first | done | rfl | skip)))

section
variable {P : Program} {w : World} {K : PySem.W.Frag} {mg : Str → Option Value} {base : Heap} {C eRow : Addr} {k : Nat}
abbrev s_least_of : Stmt := top 22
theorem sc_least_of : FnScope ["tree"] ["tree"] (defScope s_least_of) := ⟨rfl, rfl, rfl, by decide +kernel, rfl, by decide +kernel, by decide +kernel⟩
theorem str_ne1 : decide (("leaf" : Str) = "branch") = false := by decide +kernel
theorem str_ne2 : decide (("leaf" : Str) = "cut") = false := by decide +kernel
theorem str_ne3 : decide (("branch" : Str) = "cut") = false := by decide +kernel
theorem str_ne4 : decide (("branch" : Str) = "leaf") = false := by decide +kernel
theorem str_eq1 : decide (("leaf" : Str) = "leaf") = true := by decide +kernel
theorem str_eq2 : decide (("branch" : Str) = "branch") = true := by decide +kernel
theorem pr_least_of (F : DefAt K mg "least_of" s_least_of) : Pr P w K mg base (k + 1) "least_of" ["tree"] (spD K Rleast) := by
  refine pr_mk F sc_least_of (fun _ _ _ _ _ _ us hl => match us, hl with | [_], _ => rfl) (fun ds d ⟨q, t, _, e, _⟩ => by rw [e]; rfl) fun f cdv A outer s0 H E hr => ⟨_, (pss_cons (ps_while PassesOwn.never (pt_cmpR op_eq (pe_ix (ix_K (K := K) rfl) (pv 0) (pe_int) (fun _ _ => rfl)) (pe_str) (nomark _)) (pss_one (ps_set (i := 0) sc_least_of.nd rfl (by first | exact .inl rfl | exact .inr rfl) (pe_ix (ix_K (K := K) rfl) (pv 0) (pe_int) (fun _ _ => rfl)))))
    (pss_cons (ps_if (pt_cmpR op_eq (pe_ix (ix_K (K := K) rfl) (pv 0) (pe_int) (fun _ _ => rfl)) (pe_str) (nomark _)) (pss_one (ps_ret (pe_ix (ix_K (K := K) rfl) (pv 0) (pe_int) (fun _ _ => rfl)))) pss_nil)
    (pss_one (ps_ret (pe_ix (ix_K (K := K) rfl) (pe_ix (ix_K (K := K) rfl) (pv 0) (pe_int) (fun _ _ => rfl)) (pe_int) (fun _ _ => rfl)))))), ?_⟩
  rintro ds d ⟨q, t, ht, rfl, rfl⟩
  refine xs_seq (ρ1 := [some (encL (leftL t))]) ?_ ?_
  · refine xs_while (fun m ρ => ∃ t', t'.dep = m ∧ leftL t' = leftL t ∧ ρ = [some (encT t')]) (m0 := t.dep) ⟨t, rfl, rfl, rfl⟩ fun m ρ ⟨t', h1, h2, h3⟩ => ?_
    subst h3
    cases t' with
    | lf l =>
      refine ⟨false, ?_, fun h => (by cases h), fun _ => ?_⟩
      · dsimp only [encT]
        exact XT.to (by walk_at "x") str_ne1
      · have e : l = leftL t := h2
        rw [← e]
        exact Sub.refl _
    | br a b =>
      refine ⟨true, ?_, fun _ => ⟨a.dep, [some (encT a)], ?_, ⟨a, rfl, h2, rfl⟩, ?_⟩, fun h => by cases h⟩
      · dsimp only [encT]
        exact XT.to (by walk_at "x") str_eq2
      · rw [← h1]
        show a.dep < max a.dep b.dep + 1
        omega
      · dsimp only [encT]
        exact xs_set (by walk_at "x")
  · refine xs_ifs (b := true) (XT.to (by walk_at "x") str_eq1) (fun _ => ?_) (fun h => by cases h)
    refine xs_seqr (xs_ret' (by walk_at "x") ?_)
    rw [leftL_nm]
abbrev s_greatest_of : Stmt := top 23
theorem sc_greatest_of : FnScope ["tree"] ["tree"] (defScope s_greatest_of) := ⟨rfl, rfl, rfl, by decide +kernel, rfl, by decide +kernel, by decide +kernel⟩
theorem pr_greatest_of (F : DefAt K mg "greatest_of" s_greatest_of) : Pr P w K mg base (k + 1) "greatest_of" ["tree"] (spD K Rgreat) := by
  refine pr_mk F sc_greatest_of (fun _ _ _ _ _ _ us hl => match us, hl with | [_], _ => rfl) (fun ds d ⟨q, t, _, e, _⟩ => by rw [e]; rfl) fun f cdv A outer s0 H E hr => ⟨_, (pss_cons (ps_while PassesOwn.never (pt_cmpR op_eq (pe_ix (ix_K (K := K) rfl) (pv 0) (pe_int) (fun _ _ => rfl)) (pe_str) (nomark _)) (pss_one (ps_set (i := 0) sc_greatest_of.nd rfl (by first | exact .inl rfl | exact .inr rfl) (pe_ix (ix_K (K := K) rfl) (pv 0) (pe_int) (fun _ _ => rfl)))))
    (pss_cons (ps_if (pt_cmpR op_eq (pe_ix (ix_K (K := K) rfl) (pv 0) (pe_int) (fun _ _ => rfl)) (pe_str) (nomark _)) (pss_one (ps_ret (pe_ix (ix_K (K := K) rfl) (pv 0) (pe_int) (fun _ _ => rfl)))) pss_nil)
    (pss_one (ps_ret (pe_ix (ix_K (K := K) rfl) (pe_ix (ix_K (K := K) rfl) (pv 0) (pe_int) (fun _ _ => rfl)) (pe_int) (fun _ _ => rfl)))))), ?_⟩
  rintro ds d ⟨q, t, ht, rfl, rfl⟩
  refine xs_seq (ρ1 := [some (encL (rightL t))]) ?_ ?_
  · refine xs_while (fun m ρ => ∃ t', t'.dep = m ∧ rightL t' = rightL t ∧ ρ = [some (encT t')]) (m0 := t.dep) ⟨t, rfl, rfl, rfl⟩ fun m ρ ⟨t', h1, h2, h3⟩ => ?_
    subst h3
    cases t' with
    | lf l =>
      refine ⟨false, ?_, fun h => (by cases h), fun _ => ?_⟩
      · dsimp only [encT]
        exact XT.to (by walk_at "x") str_ne1
      · have e : l = rightL t := h2
        rw [← e]
        exact Sub.refl _
    | br a b =>
      refine ⟨true, ?_, fun _ => ⟨b.dep, [some (encT b)], ?_, ⟨b, rfl, h2, rfl⟩, ?_⟩, fun h => by cases h⟩
      · dsimp only [encT]
        exact XT.to (by walk_at "x") str_eq2
      · rw [← h1]
        show b.dep < max a.dep b.dep + 1
        omega
      · dsimp only [encT]
        exact xs_set (by walk_at "x")
  · refine xs_ifs (b := true) (XT.to (by walk_at "x") str_eq1) (fun _ => ?_) (fun h => by cases h)
    refine xs_seqr (xs_ret' (by walk_at "x") ?_)
    rw [rightL_nm]
abbrev s_leaf_row : Stmt := top 24
theorem sc_leaf_row : FnScope ["leaf"] ["leaf"] (defScope s_leaf_row) := ⟨rfl, rfl, rfl, by decide +kernel, rfl, by decide +kernel, by decide +kernel⟩
theorem pr_leaf_row (F : DefAt K mg "leaf_row" s_leaf_row) (T : Txt K mg C eRow) (h_number_of : Pr P w K mg base 1 "number_of" ["name"] (spD K Rnum)) : Pr P w K mg base 2 "leaf_row" ["leaf"] (spD K RlfRow) := by
  refine pr_mk F sc_leaf_row (fun _ _ _ _ _ _ us hl => match us, hl with | [_], _ => rfl) (fun ds d ⟨q, t, _, e, _⟩ => by rw [e]; rfl) fun f cdv A outer s0 H E hr => ⟨_, (pss_one (ps_ret (pe_op (op_addK (K := K) rfl) (pe_op (op_addK (K := K) rfl) (pe_tup (pa_cons (pe_int) (pa_cons (pe_callD h_number_of (hr.mono (by omega)) rfl (pa_cons (pe_ix (ix_K (K := K) rfl) (pv 0) (pe_int) (fun _ _ => rfl)) pa_nil)) (pa_cons (pe_callB (call_lenK (K := K) rfl) (by rfl) T.len PySem.boot_len (pa_cons (pe_ix (ix_K (K := K) rfl) (pv 0) (pe_int) (fun _ _ => rfl)) pa_nil)) pa_nil)))) (pe_ix (ix_K (K := K) rfl) (pv 0) (pe_int) (fun _ _ => rfl))) (pe_ix (ix_K (K := K) rfl) (pv 0) (pe_int) (fun _ _ => rfl))))), ?_⟩
  rintro ds d ⟨q, l, hl, rfl, rfl⟩
  have h0 := hl.nm
  have h1 := hl.wl
  have h2 := hl.q3
  have h3 := hl.nl
  rw [lfRow_D]
  refine xs_ret' (by walk_at "x") ?_
  rfl
abbrev s_summary_numbers : Stmt := top 25
theorem sc_summary_numbers : FnScope ["summary", "seal", "count", "sums", "least", "greatest"] ["summary"] (defScope s_summary_numbers) := ⟨rfl, rfl, rfl, by decide +kernel, rfl, by decide +kernel, by decide +kernel⟩
theorem pr_summary_numbers (F : DefAt K mg "summary_numbers" s_summary_numbers) (T : Txt K mg C eRow) (h_number_of : Pr P w K mg base 1 "number_of" ["name"] (spD K Rnum)) : Pr P w K mg base 2 "summary_numbers" ["summary"] (spD K RsmNums) := by
  refine pr_mk F sc_summary_numbers (fun _ _ _ _ _ _ us hl => match us, hl with | [_], _ => rfl) (fun ds d ⟨q, t, _, e, _⟩ => by rw [e]; rfl) fun f cdv A outer s0 H E hr => ⟨_, (pss_cons (ps_asg (pv 0) (pg_tupK (K := K) (n := 5) rfl (pg_tup rfl (pgs_cons (pg_name (i := 1) sc_summary_numbers.nd rfl (by first | exact .inl rfl | exact .inr rfl)) (pgs_cons (pg_name (i := 2) sc_summary_numbers.nd rfl (by first | exact .inl rfl | exact .inr rfl)) (pgs_cons (pg_name (i := 3) sc_summary_numbers.nd rfl (by first | exact .inl rfl | exact .inr rfl)) (pgs_cons (pg_name (i := 4) sc_summary_numbers.nd rfl (by first | exact .inl rfl | exact .inr rfl)) (pgs_cons (pg_name (i := 5) sc_summary_numbers.nd rfl (by first | exact .inl rfl | exact .inr rfl)) pgs_nil))))))))
    (pss_one (ps_ret (pe_op (op_addK (K := K) rfl) (pe_op (op_addK (K := K) rfl) (pe_tup (pa_cons (pv 1) (pa_cons (pv 2) pa_nil))) (pv 3)) (pe_tup (pa_cons (pe_callD h_number_of (hr.mono (by omega)) rfl (pa_cons (pv 4) pa_nil)) (pa_cons (pe_callD h_number_of (hr.mono (by omega)) rfl (pa_cons (pv 5) pa_nil)) pa_nil))))))), ?_⟩
  rintro ds d ⟨q, s, hs, rfl, rfl⟩
  have h0 := hs.lo
  have h1 := hs.hi
  have h2 := hs.ql
  have h3 := hs.q3
  rw [smNums_D]
  refine xs_seq (xs_asg (xe_var rfl) (xg_tup (xgs_cons xg_name (xgs_cons xg_name (xgs_cons xg_name (xgs_cons xg_name (xgs_cons xg_name xgs_nil))))) rfl)) ?_
  refine xs_ret' (by walk_at "x") ?_
  rfl
abbrev s_branch_row : Stmt := top 26
theorem sc_branch_row : FnScope ["left", "right"] ["left", "right"] (defScope s_branch_row) := ⟨rfl, rfl, rfl, by decide +kernel, rfl, by decide +kernel, by decide +kernel⟩
theorem pr_branch_row (F : DefAt K mg "branch_row" s_branch_row) (T : Txt K mg C eRow) (h_summary_numbers : Pr P w K mg base 2 "summary_numbers" ["summary"] (spD K RsmNums)) : Pr P w K mg base 3 "branch_row" ["left", "right"] (spD K RbrRow) := by
  refine pr_mk F sc_branch_row (fun _ _ _ _ _ _ us hl => match us, hl with | [_, _], _ => rfl) (fun ds d ⟨q, a, b, _, _, e, _⟩ => by rw [e]; rfl) fun f cdv A outer s0 H E hr => ⟨_, (pss_one (ps_ret (pe_op (op_addK (K := K) rfl) (pe_op (op_addK (K := K) rfl) (pe_tup (pa_cons (pe_int) (pa_cons (pe_callB (call_lenK (K := K) rfl) (by rfl) T.len PySem.boot_len (pa_cons (pe_ix (ix_K (K := K) rfl) (pv 0) (pe_int) (fun _ _ => rfl)) pa_nil)) pa_nil))) (pe_callD h_summary_numbers (hr.mono (by omega)) rfl (pa_cons (pv 0) pa_nil))) (pe_callD h_summary_numbers (hr.mono (by omega)) rfl (pa_cons (pv 1) pa_nil))))), ?_⟩
  rintro ds d ⟨q, a, b, ha, hb, rfl, rfl⟩
  have h0 := smNums_len ha
  have h1 := smNums_len hb
  rw [brRow_D]
  refine xs_ret' (by walk_at "x") ?_
  rfl
end
end SG

namespace SG
open PySem L2
local macro_rules | `(tactic| walk_at "xR") => `(tactic| first
  | ((with_reducible show Rnum _ _); exact ⟨_, by assumption, rfl, rfl⟩)
  | ((with_reducible show Rbit _ _); exact ⟨_, _, by assumption, by first | assumption | decide | omega, rfl, rfl⟩)
  | ((with_reducible show Rpart _ _); exact ⟨_, _, by assumption, by assumption, rfl, rfl⟩)
  | ((with_reducible show Risn _ _); exact ⟨_, by assumption, rfl, rfl⟩)
  | ((with_reducible show Rleast _ _); exact ⟨_, _, by assumption, rfl, rfl⟩)
  | ((with_reducible show Rgreat _ _); exact ⟨_, _, by assumption, rfl, rfl⟩)
  | ((with_reducible show RlfRow _ _); exact ⟨_, _, by assumption, rfl, rfl⟩)
  | ((with_reducible show RsmNums _ _); exact ⟨_, _, by assumption, rfl, rfl⟩)
  | ((with_reducible show RbrRow _ _); exact ⟨_, _, _, by assumption, by assumption, rfl, rfl⟩)
  | ((with_reducible show RbrSm _ _ _); exact ⟨_, _, _, _, by assumption, by assumption, by assumption, rfl, rfl⟩)
  | ((with_reducible show Rworths _ _); exact ⟨_, by assumption, by assumption, rfl, rfl⟩)
  | ((with_reducible show Rnotes _ _); exact ⟨_, by assumption, by assumption, rfl, rfl⟩)
  | ((with_reducible show RisLeaf _ _); exact ⟨_, _, by assumption, rfl, rfl⟩)
  | ((with_reducible show RareSides _ _); exact ⟨_, _, _, by assumption, by assumption, rfl, rfl⟩)
  | ((with_reducible show RisIn _ _); exact ⟨_, _, _, _, by assumption, by assumption, rfl, rfl⟩)
  | ((with_reducible show Rsl _ _ _); exact ⟨_, _, by assumption, by first | assumption | omega, rfl, rfl⟩)
  | ((with_reducible show Rsumm _ _ _ _); exact ⟨_, _, _, by assumption, by assumption, by first | assumption | omega, rfl, rfl⟩)
  | ((with_reducible show Rtop _ _ _ _); exact ⟨_, _, _, by assumption, by assumption, rfl, rfl⟩)
  | ((with_reducible show Rroot _ _ _ _); exact ⟨_, _, _, by assumption, by assumption, rfl, rfl⟩)
  | ((with_reducible show Rkinds _ _ _); exact ⟨_, _, by assumption, by first | assumption | omega, rfl, rfl⟩)
  | ((with_reducible show Rvalid _ _ _ _); exact ⟨_, _, _, by assumption, by first | assumption | omega, rfl, rfl⟩)
  | ((with_reducible show Rorder _ _ _); exact ⟨_, _, by assumption, by first | assumption | omega, rfl, rfl⟩)
  | ((with_reducible show Rwf _ _ _ _); exact ⟨_, _, _, by assumption, rfl, rfl⟩)
  | ((with_reducible show RleafT _ _); exact ⟨_, _, _, by assumption, by assumption, rfl, rfl⟩)
  | ((with_reducible show RrangeT _ _); exact ⟨_, _, _, _, by assumption, by assumption, by assumption, rfl, rfl⟩)
  | ((with_reducible show RrankT _ _); exact ⟨_, _, _, by assumption, by assumption, rfl, rfl⟩)
  | ((with_reducible show RplaceT _ _); exact ⟨_, _, _, by assumption, rfl, rfl⟩)
  | ((with_reducible show RnextT _ _); exact ⟨_, _, _, by assumption, by assumption, rfl, rfl⟩)
  | ((with_reducible show Rtold _ _); exact ⟨_, _, _, by assumption, by assumption, by assumption, rfl, rfl⟩)
  | ((with_reducible show RsideQ _ _); exact ⟨_, _, _, _, by assumption, by assumption, by assumption, rfl, rfl⟩)
  | ((with_reducible show Rjoin _ _); exact ⟨_, _, _, _, _, by assumption, by assumption, by assumption, rfl, rfl⟩)
  | ((with_reducible show Rempty _ _); exact ⟨_, by assumption, rfl, rfl⟩)
  | ((with_reducible show Rask0 _ _ _ _); exact ⟨_, _, _, _, by assumption, by assumption, by assumption, by assumption, rfl, rfl⟩)
  | ((with_reducible show Rcell _ _); exact ⟨_, _, by assumption, by first | assumption | omega, rfl, rfl⟩)
  | ((with_reducible show Rname _ _); exact ⟨_, rfl, rfl⟩)
  | ((with_reducible show Rmod _ _); exact ⟨_, rfl, rfl⟩)
  | ((with_reducible show Rlsl _ _); exact ⟨_, _, by assumption, by first | assumption | omega, rfl, rfl⟩)
  | ((with_reducible show Rlrow _ _ _); exact ⟨_, _, _, by assumption, by assumption, by first | assumption | omega, rfl, rfl⟩)
  | ((with_reducible show Rlsum _ _ _); exact ⟨_, _, _, by assumption, by assumption, by first | assumption | omega, rfl, rfl⟩)
  | ((with_reducible show Rltop _ _ _); exact ⟨_, _, _, by assumption, by assumption, rfl, rfl⟩)
  | ((with_reducible show Rlroot _ _ _); exact ⟨_, _, _, by assumption, by assumption, rfl, rfl⟩)
  | ((with_reducible show Rbits _ _); exact ⟨_, by assumption, rfl, rfl⟩)
  | ((with_reducible show Rquest _ _); exact ⟨_, rfl, rfl⟩)
  | ((with_reducible show Rsums _ _); exact ⟨_, _, by assumption, by first | assumption | omega, rfl, rfl⟩)
  | skip)
local macro_rules | `(tactic| walk_at "sub") => `(tactic| repeat first | exact sub_nil | refine sub_none ?_ | refine sub_same ?_)
local macro_rules | `(tactic| walk_at "xl") => `(tactic| first | decide | (simp only [List.length_cons, List.length_nil, List.length_append, List.length_map]; omega) | skip)
local macro_rules | `(tactic| walk_at "xr") => `(tactic| first
  | with_reducible exact xr_addI | with_reducible exact xr_sub | with_reducible exact xr_eqS | with_reducible exact xr_eqI | with_reducible exact xr_isN | with_reducible exact xr_notN
  | with_reducible exact xr_ltI | with_reducible exact xr_leI | with_reducible exact xr_gtI | with_reducible exact xr_geI | with_reducible exact xr_neS | with_reducible exact xr_neI
  | with_reducible exact xr_ltS | with_reducible exact xr_leS | with_reducible exact xr_gtS | with_reducible exact xr_inC | with_reducible exact xr_xor
  | ((with_reducible apply xr_ixTi); (next => decide); (next => exact rfl))
  | ((with_reducible apply xr_ixLi); (next => decide); (next => exact rfl))
  | ((with_reducible apply xr_addT); walk_at "xl") | ((with_reducible apply xr_addL); walk_at "xl") | ((with_reducible apply xr_addS); walk_at "xl")
  | ((with_reducible apply xr_mulI); first | exact .inl ⟨by decide, by decide⟩ | exact .inr ⟨by decide, by decide⟩ | exact .inl ⟨by omega, by omega⟩ | exact .inr ⟨by omega, by omega⟩ | skip)
  | ((with_reducible apply xr_fdiv); first | exact ⟨by decide, by decide⟩ | exact ⟨by omega, by omega⟩ | skip) | ((with_reducible apply xr_mod); first | assumption | decide | omega | skip) | ((with_reducible apply xr_shr); first | decide | omega | skip)
  | skip)
local macro_rules | `(tactic| walk_at "xc") => `(tactic| first
  | with_reducible exact xc_lenT | with_reducible exact xc_lenL | with_reducible exact xc_lenQ | with_reducible exact xc_int | with_reducible exact xc_abs | with_reducible exact xc_listT | with_reducible exact xc_tupL
  | ((with_reducible apply xc_lenS); first | assumption | omega | skip) | with_reducible exact xc_sum | with_reducible exact xc_all | skip)
local macro_rules | `(tactic| walk_at "xe") => `(tactic| first
  | ((with_reducible apply xe_var); exact rfl) | with_reducible exact xe_int | with_reducible exact xe_str | with_reducible exact xe_non | with_reducible exact xe_bl
  | ((with_reducible apply xe_op) <;> walk_at "x") | ((with_reducible apply xe_tup) <;> walk_at "x") | ((with_reducible apply xe_cb) <;> walk_at "x")
  | ((with_reducible apply xe_call) <;> walk_at "x") | ((with_reducible apply xe_lst) <;> walk_at "x")
  | ((with_reducible apply xe_meth) <;> walk_at "x") | ((with_reducible apply xe_bits) <;> walk_at "x") | ((with_reducible apply xe_not) <;> walk_at "x")
  | ((with_reducible apply xe_and) <;> walk_at "x") | ((with_reducible apply xe_or) <;> walk_at "x") | ((with_reducible apply xe_chain) <;> walk_at "x")
  | ((with_reducible apply xe_slT) <;> walk_at "x") | ((with_reducible apply xe_fld) <;> walk_at "x") | skip)
local macro_rules | `(tactic| walk_at "x") => `(tactic| first
  | ((with_reducible show XE _ _ _ _); walk_at "xe") | ((with_reducible show XR _ _ _ _ _); walk_at "xr") | ((with_reducible show XC _ _ _ _); walk_at "xc")
  | with_reducible exact xa_nil | ((with_reducible apply xa_cons) <;> walk_at "x")
  | ((with_reducible apply xt_test) <;> walk_at "x") | ((with_reducible apply xt_B) <;> walk_at "x") | ((with_reducible apply xt_and) <;> walk_at "x") | ((with_reducible apply xt_or) <;> walk_at "x")
  | ((with_reducible apply xt_not) <;> walk_at "x") | with_reducible exact xt_yes
  | with_reducible exact xo_none | ((with_reducible apply xo_some) <;> walk_at "x")
  | ((with_reducible show List.length _ ≤ 100000); walk_at "xl") | ((with_reducible show (_ == _) = false); decide +kernel) | ((with_reducible show Cls _ _); assumption) | ((with_reducible show NoAttr _ _ _); assumption) | ((with_reducible intro _); walk_at "x") | walk_at "xR")
local macro_rules | `(tactic| walk_at "if0") => `(tactic| (refine xs_ifs (b := false) (XT.to (by walk_at "x") (by decide +kernel)) (fun h => (by cases h)) fun _ => xs_nseq ?_))
local macro_rules | `(tactic| walk_at "if1") => `(tactic| (refine xs_ifs (b := true) (XT.to (by walk_at "x") (by decide +kernel)) (fun _ => xs_seqr ?_) fun h => (by cases h)))
local macro_rules | `(tactic| walk_at "ret") => `(tactic| ((refine xs_ret' (by walk_at "x") ?_); (first | done | rfl | skip)))

section
variable {P : Program} {w : World} {K : PySem.W.Frag} {mg : Str → Option Value} {base : Heap} {C eRow : Addr} {k : Nat}
abbrev s_seal : Stmt := inClass (top 59) 2
theorem sc_seal : FnScope ["self", "row", "value", "number"] ["self", "row"] (defScope s_seal) := ⟨rfl, rfl, rfl, by decide +kernel, rfl, by decide +kernel, by decide +kernel⟩
theorem take_at {α : Type} {l : List α} {n : Nat} {x : α} (h : l[n]? = some x) : l.take (n + 1) = l.take n ++ [x] := take_snoc h
theorem foldl_take {p : Int} {L : List Int} {n : Nat} {i : Int} (h : L[n]? = some i) : (L.take (n + 1)).foldl (slStep p) 1 = slStep p ((L.take n).foldl (slStep p) 1) i := by
  rw [take_at h, List.foldl_append]
  rfl
theorem foldl_rng {p : Int} (h : PM p) (L : List Int) : -(2 ^ 64) < L.foldl (slStep p) 1 ∧ L.foldl (slStep p) 1 < 2 ^ 64 := by
  have g : ∀ (L : List Int) (v : Int), (-(2 ^ 64) < v ∧ v < 2 ^ 64) → -(2 ^ 64) < L.foldl (slStep p) v ∧ L.foldl (slStep p) v < 2 ^ 64 := by
    intro L
    induction L with
    | nil => intro v hv; exact hv
    | cons x r ih =>
      intro v hv
      refine ih _ ?_
      obtain ⟨a, b⟩ := slStep_rng (v := v) (n := x) h
      have := h.hi
      exact ⟨by omega, by omega⟩
  exact g L 1 ⟨by decide, by decide⟩
theorem map_at {L : List Int} {n : Nat} {d : D} (h : (L.map D.int)[n]? = some d) : ∃ i, L[n]? = some i ∧ d = .int i := by
  rw [List.getElem?_map] at h
  cases e : L[n]? with
  | none => rw [e] at h; cases h
  | some i =>
    rw [e] at h
    cases h
    exact ⟨i, rfl, rfl⟩
theorem rowL_D (row : List Int) : row.map D.int ++ [D.int (((row.map D.int).length : Nat) : Int)] = (row ++ [(row.length : Int)]).map .int := by
  rw [List.map_append, List.length_map]
  rfl
theorem prM_sl (F : MethAt K C "seal" "Sealer.seal" s_seal) (T : Txt K mg C eRow) : PrM P w K mg base 1 C "seal" ["self", "row"] (spD K (Rsl C)) := by
  refine prM_mk F sc_seal (fun _ _ _ _ _ _ us hl => match us, hl with | [_, _], _ => rfl) (fun ds d ⟨p, row, _, _, e, _⟩ => by rw [e]; rfl) fun f cdv A outer s0 H E hr => ⟨_, (pss_cons (ps_set (i := 2) sc_seal.nd rfl (by first | exact .inl rfl | exact .inr rfl) (pe_int))
    (pss_cons (ps_for PassesOwn.never rfl (pi_listK (K := K) rfl (pe_op (op_addK (K := K) rfl) (pe_callTy (call_listK (K := K) rfl) (by rfl) T.list (by decide +kernel) (pa_cons (pv 1) pa_nil)) (pe_lst (pa_cons (pe_callB (call_lenK (K := K) rfl) (by rfl) T.len PySem.boot_len (pa_cons (pv 1) pa_nil)) pa_nil)))) (pg_name (i := 3) sc_seal.nd rfl (by first | exact .inl rfl | exact .inr rfl)) (pss_one (ps_set (i := 2) sc_seal.nd rfl (by first | exact .inl rfl | exact .inr rfl) (pe_op op_modN (pe_callTy call_int1 (by rfl) T.int (by decide +kernel) (pa_cons (pe_op (op_addK (K := K) rfl) (pe_op (op_addK (K := K) rfl) (pe_op (op_addK (K := K) rfl) (pe_op op_mulU (pe_op op_mulU (pv 2) (pv 2)) (pv 2)) (pe_op op_mulU (pe_int) (pv 2))) (pe_op op_mulU (pe_int) (pv 3))) (pe_int)) pa_nil)) (pe_fldK (K := K) rfl (pv 0))))))
    (pss_one (ps_ret (pv 2))))), ?_⟩
  rintro ds d ⟨p, row, hp, hl, rfl, rfl⟩
  refine xs_seq (xs_set (by walk_at "x")) ?_
  refine xs_seq (xs_for (XI.to (xi_list (by walk_at "x")) (rowL_D row)) (fun n => [some (.obj C p), some (encI row), some (.int (((row ++ [(row.length : Int)]).take n).foldl (slStep p) 1)), none]) (by walk_at "sub") fun n d hd => ?_) ?_
  · obtain ⟨i, hi, rfl⟩ := map_at hd
    obtain ⟨v1, v2⟩ := foldl_rng hp ((row ++ [(row.length : Int)]).take n)
    have h0 : p ≠ 0 := by have := hp.lo; omega
    have hc := T.cl
    have hn := T.nM
    refine ⟨_, _, xg_name, ?_, Sub.refl _⟩
    rw [foldl_take hi]
    generalize ((row ++ [(row.length : Int)]).take n).foldl (slStep p) 1 = v at v1 v2
    refine (xs_set (by walk_at "x")).weak ?_
    walk_at "sub"
  · refine xs_ret' (by walk_at "x") ?_
    rw [List.length_map, List.take_length]
    rfl
abbrev s_branch_summary : Stmt := top 27
theorem sc_branch_summary : FnScope ["sealer", "left", "right", "sums", "one", "other"] ["sealer", "left", "right"] (defScope s_branch_summary) := ⟨rfl, rfl, rfl, by decide +kernel, rfl, by decide +kernel, by decide +kernel⟩
theorem zip_at {xs ys : List Int} {m : Nat} {d y : D} (h1 : (List.zipWith (fun a b => D.tup [a, b]) (xs.map .int) (ys.map .int))[m]? = some d) (h2 : ((List.zipWith (· + ·) xs ys).map D.int)[m]? = some y) : ∃ i j, d = .tup [.int i, .int j] ∧ y = .int (i + j) := by
  rw [List.getElem?_zipWith, List.getElem?_map, List.getElem?_map] at h1
  rw [List.getElem?_map, List.getElem?_zipWith] at h2
  cases e1 : xs[m]? with
  | none => rw [e1] at h1; cases h1
  | some i =>
    cases e2 : ys[m]? with
    | none => rw [e1, e2] at h1; cases h1
    | some j =>
      rw [e1, e2] at h1 h2
      cases h1
      cases h2
      exact ⟨i, j, rfl, rfl⟩
theorem zip_len {xs ys : List Int} : ((List.zipWith (· + ·) xs ys).map D.int).length = (List.zipWith (fun a b => D.tup [a, b]) (xs.map .int) (ys.map .int)).length := by
  rw [List.length_map, List.length_zipWith, List.length_zipWith, List.length_map, List.length_map]
theorem pr_branch_summary (F : DefAt K mg "branch_summary" s_branch_summary) (T : Txt K mg C eRow) (h_branch_row : Pr P w K mg base 3 "branch_row" ["left", "right"] (spD K RbrRow)) (h_seal : PrM P w K mg base 1 C "seal" ["self", "row"] (spD K (Rsl C))) :
    Pr P w K mg base 4 "branch_summary" ["sealer", "left", "right"] (spD K (RbrSm C)) := by
  refine pr_mk F sc_branch_summary (fun _ _ _ _ _ _ us hl => match us, hl with | [_, _, _], _ => rfl) (fun ds d ⟨p, q, a, b, _, _, _, e, _⟩ => by rw [e]; rfl) fun f cdv A outer s0 H E hr => ⟨_, (pss_cons (ps_set (i := 3) sc_branch_summary.nd rfl (by first | exact .inl rfl | exact .inr rfl) (pe_callTy (call_tupK (K := K) rfl) (by rfl) T.tuple (by decide +kernel) (pa_cons (pe_lc (own := [("one", 4), ("other", 5)]) rfl sc_branch_summary.nd (pi_zipK (K := K) rfl rfl T.zip (pa_cons (pe_ix (ix_K (K := K) rfl) (pv 1) (pe_int) (fun _ _ => rfl)) (pa_cons (pe_ix (ix_K (K := K) rfl) (pv 2) (pe_int) (fun _ _ => rfl)) pa_nil))) (blkOk_by (by kernel_rfl)) (fun _ _ _ _ _ => (pg_tupK (K := K) (n := 2) rfl (pg_tup rfl (pgs_cons (pg_name (i := 4) sc_branch_summary.nd rfl (by first | exact .inl rfl | exact .inr rfl)) (pgs_cons (pg_name (i := 5) sc_branch_summary.nd rfl (by first | exact .inl rfl | exact .inr rfl)) pgs_nil))))) (fun _ _ _ _ _ => pts_nil) (fun _ _ _ _ _ => (pe_op (op_addK (K := K) rfl) (pv 4) (pv 5)))) pa_nil)))
    (pss_one (ps_ret (pe_tup (pa_cons (pe_methD (pv 0) T.cl h_seal (hr.mono (by omega)) (pa_cons (pe_callD h_branch_row (hr.mono (by omega)) rfl (pa_cons (pv 1) (pa_cons (pv 2) pa_nil))) pa_nil)) (pa_cons (pe_op (op_addK (K := K) rfl) (pe_ix (ix_K (K := K) rfl) (pv 1) (pe_int) (fun _ _ => rfl)) (pe_ix (ix_K (K := K) rfl) (pv 2) (pe_int) (fun _ _ => rfl))) (pa_cons (pv 3) (pa_cons (pe_ix (ix_K (K := K) rfl) (pv 1) (pe_int) (fun _ _ => rfl)) (pa_cons (pe_ix (ix_K (K := K) rfl) (pv 2) (pe_int) (fun _ _ => rfl)) pa_nil))))))))), ?_⟩
  rintro ds d ⟨p, q, a, b, hp, ha, hb, rfl, rfl⟩
  have hrow := brRow_len ha hb
  have hl : (a.sums.map D.int).length = (b.sums.map D.int).length := by rw [List.length_map, List.length_map, ha.ql, hb.ql]
  have hz : (List.zipWith (fun a b => D.tup [a, b]) (a.sums.map .int) (b.sums.map .int)).length ≤ 100000 := by
    rw [List.length_zipWith, List.length_map, List.length_map, ha.ql, hb.ql]
    have := ha.q3
    omega
  refine xs_seq (xs_set (xe_cb (xa_cons (xe_lc2 ((List.zipWith (· + ·) a.sums b.sums).map .int) zip_len (xi_zipT (by walk_at "x") hl) hz fun m d y h1 h2 => ?_) xa_nil) xc_tupL)) ?_
  · obtain ⟨i, j, rfl, rfl⟩ := zip_at h1 h2
    exact ⟨_, _, rfl, by walk_at "x"⟩
  · refine xs_ret' (by walk_at "x") ?_
    rfl
abbrev s_summary_of : Stmt := top 28
theorem sc_summary_of : FnScope ["sealer", "tree"] ["sealer", "tree"] (defScope s_summary_of) := ⟨rfl, rfl, rfl, by decide +kernel, rfl, by decide +kernel, by decide +kernel⟩
theorem dep_l {a b : T} {n : Nat} (h : (T.br a b).dep ≤ n + 1) : a.dep ≤ n := by
  have : max a.dep b.dep + 1 ≤ n + 1 := h
  omega
theorem dep_r {a b : T} {n : Nat} (h : (T.br a b).dep ≤ n + 1) : b.dep ≤ n := by
  have : max a.dep b.dep + 1 ≤ n + 1 := h
  omega
theorem pr_summary_of (F : DefAt K mg "summary_of" s_summary_of) (T : Txt K mg C eRow) (h_leaf_row : Pr P w K mg base 2 "leaf_row" ["leaf"] (spD K RlfRow)) (h_branch_summary : Pr P w K mg base 4 "branch_summary" ["sealer", "left", "right"] (spD K (RbrSm C)))
    (h_seal : PrM P w K mg base 1 C "seal" ["self", "row"] (spD K (Rsl C))) : ∀ n, Pr P w K mg base (4 + n) "summary_of" ["sealer", "tree"] (spD K (Rsumm C n))
  | 0 => pr_none F (fun _ _ _ _ _ _ us hl => match us, hl with | [_, _], _ => rfl) (fun ds d ⟨p, q, t, _, _, h, _⟩ => by have := t.dep_pos; omega) 4
  | n + 1 => by
    have h_summary_of := pr_summary_of F T h_leaf_row h_branch_summary h_seal n
    refine pr_mk (k := 4 + n) F sc_summary_of (fun _ _ _ _ _ _ us hl => match us, hl with | [_, _], _ => rfl) (fun ds d ⟨p, q, t, _, _, _, e, _⟩ => by rw [e]; rfl) fun f cdv A outer s0 H E hr => ⟨_, (pss_cons (ps_if (pt_cmpR op_eq (pe_ix (ix_K (K := K) rfl) (pv 1) (pe_int) (fun _ _ => rfl)) (pe_str) (nomark _)) pss_never pss_nil)
    (pss_cons (ps_if (pt_cmpR op_eq (pe_ix (ix_K (K := K) rfl) (pv 1) (pe_int) (fun _ _ => rfl)) (pe_str) (nomark _)) (pss_one (ps_ret (pe_tup (pa_cons (pe_methD (pv 0) T.cl h_seal (hr.mono (by omega)) (pa_cons (pe_callD h_leaf_row (hr.mono (by omega)) rfl (pa_cons (pv 1) pa_nil)) pa_nil)) (pa_cons (pe_int) (pa_cons (pe_ix (ix_K (K := K) rfl) (pv 1) (pe_int) (fun _ _ => rfl)) (pa_cons (pe_ix (ix_K (K := K) rfl) (pv 1) (pe_int) (fun _ _ => rfl)) (pa_cons (pe_ix (ix_K (K := K) rfl) (pv 1) (pe_int) (fun _ _ => rfl)) pa_nil)))))))) pss_nil)
    (pss_one (ps_ret (pe_callD h_branch_summary (hr.mono (by omega)) rfl (pa_cons (pv 0) (pa_cons (pe_callD h_summary_of (hr.mono (by omega)) rfl (pa_cons (pv 0) (pa_cons (pe_ix (ix_K (K := K) rfl) (pv 1) (pe_int) (fun _ _ => rfl)) pa_nil))) (pa_cons (pe_callD h_summary_of (hr.mono (by omega)) rfl (pa_cons (pv 0) (pa_cons (pe_ix (ix_K (K := K) rfl) (pv 1) (pe_int) (fun _ _ => rfl)) pa_nil))) pa_nil)))))))), ?_⟩
    rintro ds d ⟨p, q, t, hp, ht, hd, rfl, rfl⟩
    cases t with
    | lf l =>
      dsimp only [encT]
      have hl := ht.lf
      have hrow := lfRow_len hl
      refine xs_ifs (b := false) (XT.to (by walk_at "x") str_ne2) (fun h => by cases h) fun _ => xs_nseq ?_
      refine xs_ifs (b := true) (XT.to (by walk_at "x") str_eq1) (fun _ => xs_seqr ?_) fun h => by cases h
      refine xs_ret' (by walk_at "x") ?_
      rfl
    | br a b =>
      dsimp only [encT]
      have ha := ht.l
      have hb := ht.r
      have da := dep_l hd
      have db := dep_r hd
      have sa := summ_ok p ha
      have sb := summ_ok p hb
      refine xs_ifs (b := false) (XT.to (by walk_at "x") str_ne3) (fun h => by cases h) fun _ => xs_nseq ?_
      refine xs_ifs (b := false) (XT.to (by walk_at "x") str_ne4) (fun h => by cases h) fun _ => xs_nseq ?_
      refine xs_ret' (by walk_at "x") ?_
      rfl
end
end SG

namespace SG
open PySem L2
local macro_rules | `(tactic| walk_at "xR") => `(tactic| first
  | ((with_reducible show Rnum _ _); exact ⟨_, by assumption, rfl, rfl⟩)
  | ((with_reducible show Rbit _ _); exact ⟨_, _, by assumption, by first | assumption | decide | omega, rfl, rfl⟩)
  | ((with_reducible show Rpart _ _); exact ⟨_, _, by assumption, by assumption, rfl, rfl⟩)
  | ((with_reducible show Risn _ _); exact ⟨_, by assumption, rfl, rfl⟩)
  | ((with_reducible show Rleast _ _); exact ⟨_, _, by assumption, rfl, rfl⟩)
  | ((with_reducible show Rgreat _ _); exact ⟨_, _, by assumption, rfl, rfl⟩)
  | ((with_reducible show RlfRow _ _); exact ⟨_, _, by assumption, rfl, rfl⟩)
  | ((with_reducible show RsmNums _ _); exact ⟨_, _, by assumption, rfl, rfl⟩)
  | ((with_reducible show RbrRow _ _); exact ⟨_, _, _, by assumption, by assumption, rfl, rfl⟩)
  | ((with_reducible show RbrSm _ _ _); exact ⟨_, _, _, _, by assumption, by assumption, by assumption, rfl, rfl⟩)
  | ((with_reducible show Rworths _ _); exact ⟨_, by assumption, by assumption, rfl, rfl⟩)
  | ((with_reducible show Rnotes _ _); exact ⟨_, by assumption, by assumption, rfl, rfl⟩)
  | ((with_reducible show RisLeaf _ _); exact ⟨_, _, by assumption, rfl, rfl⟩)
  | ((with_reducible show RareSides _ _); exact ⟨_, _, _, by assumption, by assumption, rfl, rfl⟩)
  | ((with_reducible show RisIn _ _); exact ⟨_, _, _, _, by assumption, by assumption, rfl, rfl⟩)
  | ((with_reducible show Rsl _ _ _); exact ⟨_, _, by assumption, by first | assumption | omega, rfl, rfl⟩)
  | ((with_reducible show Rsumm _ _ _ _); exact ⟨_, _, _, by assumption, by assumption, by first | assumption | omega, rfl, rfl⟩)
  | ((with_reducible show Rtop _ _ _ _); exact ⟨_, _, _, by assumption, by assumption, rfl, rfl⟩)
  | ((with_reducible show Rroot _ _ _ _); exact ⟨_, _, _, by assumption, by assumption, rfl, rfl⟩)
  | ((with_reducible show Rkinds _ _ _); exact ⟨_, _, by assumption, by first | assumption | omega, rfl, rfl⟩)
  | ((with_reducible show Rvalid _ _ _ _); exact ⟨_, _, _, by assumption, by first | assumption | omega, rfl, rfl⟩)
  | ((with_reducible show Rorder _ _ _); exact ⟨_, _, by assumption, by first | assumption | omega, rfl, rfl⟩)
  | ((with_reducible show Rwf _ _ _ _); exact ⟨_, _, _, by assumption, rfl, rfl⟩)
  | ((with_reducible show RleafT _ _); exact ⟨_, _, _, by assumption, by assumption, rfl, rfl⟩)
  | ((with_reducible show RrangeT _ _); exact ⟨_, _, _, _, by assumption, by assumption, by assumption, rfl, rfl⟩)
  | ((with_reducible show RrankT _ _); exact ⟨_, _, _, by assumption, by assumption, rfl, rfl⟩)
  | ((with_reducible show RplaceT _ _); exact ⟨_, _, _, by assumption, rfl, rfl⟩)
  | ((with_reducible show RnextT _ _); exact ⟨_, _, _, by assumption, by assumption, rfl, rfl⟩)
  | ((with_reducible show Rtold _ _); exact ⟨_, _, _, by assumption, by assumption, by assumption, rfl, rfl⟩)
  | ((with_reducible show RsideQ _ _); exact ⟨_, _, _, _, by assumption, by assumption, by assumption, rfl, rfl⟩)
  | ((with_reducible show Rjoin _ _); exact ⟨_, _, _, _, _, by assumption, by assumption, by assumption, rfl, rfl⟩)
  | ((with_reducible show Rempty _ _); exact ⟨_, by assumption, rfl, rfl⟩)
  | ((with_reducible show Rask0 _ _ _ _); exact ⟨_, _, _, _, by assumption, by assumption, by assumption, by assumption, rfl, rfl⟩)
  | ((with_reducible show Rcell _ _); exact ⟨_, _, by assumption, by first | assumption | omega, rfl, rfl⟩)
  | ((with_reducible show Rname _ _); exact ⟨_, rfl, rfl⟩)
  | ((with_reducible show Rmod _ _); exact ⟨_, rfl, rfl⟩)
  | ((with_reducible show Rlsl _ _); exact ⟨_, _, by assumption, by first | assumption | omega, rfl, rfl⟩)
  | ((with_reducible show Rlrow _ _ _); exact ⟨_, _, _, by assumption, by assumption, by first | assumption | omega, rfl, rfl⟩)
  | ((with_reducible show Rlsum _ _ _); exact ⟨_, _, _, by assumption, by assumption, by first | assumption | omega, rfl, rfl⟩)
  | ((with_reducible show Rltop _ _ _); exact ⟨_, _, _, by assumption, by assumption, rfl, rfl⟩)
  | ((with_reducible show Rlroot _ _ _); exact ⟨_, _, _, by assumption, by assumption, rfl, rfl⟩)
  | ((with_reducible show Rbits _ _); exact ⟨_, by assumption, rfl, rfl⟩)
  | ((with_reducible show Rquest _ _); exact ⟨_, rfl, rfl⟩)
  | ((with_reducible show Rsums _ _); exact ⟨_, _, by assumption, by first | assumption | omega, rfl, rfl⟩)
  | skip)
local macro_rules | `(tactic| walk_at "sub") => `(tactic| repeat first | exact sub_nil | refine sub_none ?_ | refine sub_same ?_)
local macro_rules | `(tactic| walk_at "xl") => `(tactic| first | decide | (simp only [List.length_cons, List.length_nil, List.length_append, List.length_map]; omega) | skip)
local macro_rules | `(tactic| walk_at "xr") => `(tactic| first
  | with_reducible exact xr_addI | with_reducible exact xr_sub | with_reducible exact xr_eqS | with_reducible exact xr_eqI | with_reducible exact xr_isN | with_reducible exact xr_notN
  | with_reducible exact xr_ltI | with_reducible exact xr_leI | with_reducible exact xr_gtI | with_reducible exact xr_geI | with_reducible exact xr_neS | with_reducible exact xr_neI
  | with_reducible exact xr_ltS | with_reducible exact xr_leS | with_reducible exact xr_gtS | with_reducible exact xr_inC | with_reducible exact xr_xor
  | ((with_reducible apply xr_ixTi); (next => decide); (next => exact rfl))
  | ((with_reducible apply xr_ixLi); (next => decide); (next => exact rfl))
  | ((with_reducible apply xr_addT); walk_at "xl") | ((with_reducible apply xr_addL); walk_at "xl") | ((with_reducible apply xr_addS); walk_at "xl")
  | ((with_reducible apply xr_mulI); first | exact .inl ⟨by decide, by decide⟩ | exact .inr ⟨by decide, by decide⟩ | exact .inl ⟨by omega, by omega⟩ | exact .inr ⟨by omega, by omega⟩ | skip)
  | ((with_reducible apply xr_fdiv); first | exact ⟨by decide, by decide⟩ | exact ⟨by omega, by omega⟩ | skip) | ((with_reducible apply xr_mod); first | assumption | decide | omega | skip) | ((with_reducible apply xr_shr); first | decide | omega | skip)
  | skip)
local macro_rules | `(tactic| walk_at "xc") => `(tactic| first
  | with_reducible exact xc_lenT | with_reducible exact xc_lenL | with_reducible exact xc_lenQ | with_reducible exact xc_int | with_reducible exact xc_abs | with_reducible exact xc_listT | with_reducible exact xc_tupL
  | ((with_reducible apply xc_lenS); first | assumption | omega | skip) | with_reducible exact xc_sum | with_reducible exact xc_all | skip)
local macro_rules | `(tactic| walk_at "xe") => `(tactic| first
  | ((with_reducible apply xe_var); exact rfl) | with_reducible exact xe_int | with_reducible exact xe_str | with_reducible exact xe_non | with_reducible exact xe_bl
  | ((with_reducible apply xe_op) <;> walk_at "x") | ((with_reducible apply xe_tup) <;> walk_at "x") | ((with_reducible apply xe_cb) <;> walk_at "x")
  | ((with_reducible apply xe_call) <;> walk_at "x") | ((with_reducible apply xe_lst) <;> walk_at "x")
  | ((with_reducible apply xe_meth) <;> walk_at "x") | ((with_reducible apply xe_bits) <;> walk_at "x") | ((with_reducible apply xe_not) <;> walk_at "x")
  | ((with_reducible apply xe_and) <;> walk_at "x") | ((with_reducible apply xe_or) <;> walk_at "x") | ((with_reducible apply xe_chain) <;> walk_at "x")
  | ((with_reducible apply xe_slT) <;> walk_at "x") | ((with_reducible apply xe_fld) <;> walk_at "x") | skip)
local macro_rules | `(tactic| walk_at "x") => `(tactic| first
  | ((with_reducible show XE _ _ _ _); walk_at "xe") | ((with_reducible show XR _ _ _ _ _); walk_at "xr") | ((with_reducible show XC _ _ _ _); walk_at "xc")
  | with_reducible exact xa_nil | ((with_reducible apply xa_cons) <;> walk_at "x")
  | ((with_reducible apply xt_test) <;> walk_at "x") | ((with_reducible apply xt_B) <;> walk_at "x") | ((with_reducible apply xt_and) <;> walk_at "x") | ((with_reducible apply xt_or) <;> walk_at "x")
  | ((with_reducible apply xt_not) <;> walk_at "x") | with_reducible exact xt_yes
  | with_reducible exact xo_none | ((with_reducible apply xo_some) <;> walk_at "x")
  | ((with_reducible show List.length _ ≤ 100000); walk_at "xl") | ((with_reducible show (_ == _) = false); decide +kernel) | ((with_reducible show Cls _ _); assumption) | ((with_reducible show NoAttr _ _ _); assumption) | ((with_reducible intro _); walk_at "x") | walk_at "xR")
local macro_rules | `(tactic| walk_at "if0") => `(tactic| (refine xs_ifs (b := false) (XT.to (by walk_at "x") (by decide +kernel)) (fun h => (by cases h)) fun _ => xs_nseq ?_))
local macro_rules | `(tactic| walk_at "if1") => `(tactic| (refine xs_ifs (b := true) (XT.to (by walk_at "x") (by decide +kernel)) (fun _ => xs_seqr ?_) fun h => (by cases h)))
local macro_rules | `(tactic| walk_at "ret") => `(tactic| ((refine xs_ret' (by walk_at "x") ?_); (first | done | rfl | skip)))

section
variable {P : Program} {w : World} {K : PySem.W.Frag} {mg : Str → Option Value} {base : Heap} {C eRow : Addr} {k : Nat}
abbrev s_top_row : Stmt := top 29
theorem sc_top_row : FnScope ["sealer", "tree", "summary"] ["sealer", "tree"] (defScope s_top_row) := ⟨rfl, rfl, rfl, by decide +kernel, rfl, by decide +kernel, by decide +kernel⟩
theorem pr_top_row (F : DefAt K mg "top_row" s_top_row) (T : Txt K mg C eRow) {n : Nat} (h_summary_of : Pr P w K mg base (4 + n) "summary_of" ["sealer", "tree"] (spD K (Rsumm C n))) (h_summary_numbers : Pr P w K mg base 2 "summary_numbers" ["summary"] (spD K RsmNums)) :
    Pr P w K mg base (5 + n) "top_row" ["sealer", "tree"] (spD K (Rtop C n)) := by
  have e5 : 5 + n = (4 + n) + 1 := by omega
  rw [e5]
  refine pr_mk F sc_top_row (fun _ _ _ _ _ _ us hl => match us, hl with | [_, _], _ => rfl) (fun ds d ⟨p, q, o, _, _, e, _⟩ => by rw [e]; rfl) fun f cdv A outer s0 H E hr => ⟨_, (pss_cons (ps_if (pt_cmpR op_isN (pv 1) pe_non (nomark _)) (pss_one (ps_ret (pe_gR T.g_EMPTY_ROW rfl))) pss_nil)
    (pss_cons (ps_set (i := 2) sc_top_row.nd rfl (by first | exact .inl rfl | exact .inr rfl) (pe_callD h_summary_of (hr.mono (by omega)) rfl (pa_cons (pv 0) (pa_cons (pv 1) pa_nil))))
    (pss_one (ps_ret (pe_op (op_addK (K := K) rfl) (pe_tup (pa_cons (pe_int) (pa_cons (pe_callB (call_lenK (K := K) rfl) (by rfl) T.len PySem.boot_len (pa_cons (pe_ix (ix_K (K := K) rfl) (pv 2) (pe_int) (fun _ _ => rfl)) pa_nil)) pa_nil))) (pe_callD h_summary_numbers (hr.mono (by omega)) rfl (pa_cons (pv 2) pa_nil))))))), ?_⟩
  rintro ds d ⟨p, q, o, hp, ho, rfl, rfl⟩
  cases o with
  | none =>
    refine xs_ifs (b := true) (XT.to (by walk_at "x") (show D.isN (encTo none) = true from rfl)) (fun _ => xs_seqr ?_) fun h => by cases h
    exact xs_ret' (xe_gtup T.eRow (fun H => .cons (.int 2) .nil)) rfl
  | some t =>
    obtain ⟨ht, hd⟩ := ho t rfl
    have hs := summ_ok p ht
    have hl := smNums_len hs
    refine xs_ifs (b := false) (XT.to (by walk_at "x") (show D.isN (encTo (some t)) = false from encT_ne t)) (fun h => by cases h) fun _ => xs_nseq ?_
    refine xs_seq (xs_set (d := encS (summ p t)) (xe_call (by walk_at "x") ⟨p, q, t, hp, ht, hd, rfl, rfl⟩)) ?_
    show XS K _ _ (.rt (encI (topRow (summ p t))))
    rw [topRow_D]
    refine xs_ret' (by walk_at "x") ?_
    rfl
abbrev s_root_of : Stmt := top 30
theorem sc_root_of : FnScope ["sealer", "tree"] ["sealer", "tree"] (defScope s_root_of) := ⟨rfl, rfl, rfl, by decide +kernel, rfl, by decide +kernel, by decide +kernel⟩
theorem topRowO_len {p : Int} {q n : Nat} {o : Option T} (h : OTOk q n o) : (topRowO p o).length ≤ 1000 := by
  cases o with
  | none => show 1 ≤ 1000; decide
  | some t => exact topRow_len (summ_ok p (h t rfl).1)
theorem rootOf_eq (p : Int) (o : Option T) : rootOf p o = sealOf p (topRowO p o) := by cases o <;> rfl
theorem pr_root_of (F : DefAt K mg "root_of" s_root_of) (T : Txt K mg C eRow) {n : Nat} (h_top_row : Pr P w K mg base (5 + n) "top_row" ["sealer", "tree"] (spD K (Rtop C n))) (h_seal : PrM P w K mg base 1 C "seal" ["self", "row"] (spD K (Rsl C))) :
    Pr P w K mg base (6 + n) "root_of" ["sealer", "tree"] (spD K (Rroot C n)) := by
  have e5 : 6 + n = (5 + n) + 1 := by omega
  rw [e5]
  refine pr_mk F sc_root_of (fun _ _ _ _ _ _ us hl => match us, hl with | [_, _], _ => rfl) (fun ds d ⟨p, q, o, _, _, e, _⟩ => by rw [e]; rfl) fun f cdv A outer s0 H E hr => ⟨_, (pss_one (ps_ret (pe_methD (pv 0) T.cl h_seal (hr.mono (by omega)) (pa_cons (pe_callD h_top_row (hr.mono (by omega)) rfl (pa_cons (pv 0) (pa_cons (pv 1) pa_nil))) pa_nil)))), ?_⟩
  rintro ds d ⟨p, q, o, hp, ho, rfl, rfl⟩
  have hl := topRowO_len (p := p) ho
  rw [rootOf_eq]
  refine xs_ret' (by walk_at "x") ?_
  rfl
abbrev s_are_worths : Stmt := top 31
theorem sc_are_worths : FnScope ["values", "value"] ["values"] (defScope s_are_worths) := ⟨rfl, rfl, rfl, by decide +kernel, rfl, by decide +kernel, by decide +kernel⟩
theorem pr_are_worths (F : DefAt K mg "are_worths" s_are_worths) (T : Txt K mg C eRow) : Pr P w K mg base (k + 1) "are_worths" ["values"] (spD K Rworths) := by
  refine pr_mk F sc_are_worths (fun _ _ _ _ _ _ us hl => match us, hl with | [_], _ => rfl) (fun ds d ⟨ws, _, _, e, _⟩ => by rw [e]; rfl) fun f cdv A outer s0 H E hr => ⟨_, (pss_one (ps_ret (pe_and (pe_chain op_leU op_leU (pe_int) (pe_callB (call_lenK (K := K) rfl) (by rfl) T.len PySem.boot_len (pa_cons (pv 0) pa_nil)) (pe_gI T.g_KIND_LIMIT rfl)) (pe_one (pe_callB (call_allK (K := K) rfl rfl) (by rfl) T.all (by decide +kernel) (pa_cons (pe_lc (own := [("value", 1)]) rfl sc_are_worths.nd (pi_tupK (K := K) rfl (pv 0)) (blkOk_by (by kernel_rfl)) (fun _ _ _ _ _ => (pg_name (i := 1) sc_are_worths.nd rfl (by first | exact .inl rfl | exact .inr rfl))) (fun _ _ _ _ _ => pts_nil) (fun _ _ _ _ _ => (pe_chain op_leU op_leU (pe_int) (pv 1) (pe_gI T.g_AMOUNT_LIMIT rfl)))) pa_nil)))))), ?_⟩
  rintro ds d ⟨ws, ⟨h1, h3⟩, hv, rfl, rfl⟩
  have hl : (ws.map D.int).length = ws.length := List.length_map _
  have g1 : decide ((1 : Int) ≤ (((ws.map D.int).length : Nat) : Int)) = true := decide_eq_true (by omega)
  have g2 : decide ((((ws.map D.int).length : Nat) : Int) ≤ 3) = true := decide_eq_true (by omega)
  refine xs_ret' (xe_and (b := true) (by walk_at "x") fun _ => xe_cb (xa_cons (xe_lcm (fun _ => .bl true) (xi_tup (by walk_at "x")) (by omega) fun m d hd => ?_) xa_nil) ?_) ?_
  · obtain ⟨i, hi, rfl⟩ := map_at hd
    obtain ⟨v1, v2⟩ := hv i (List.mem_of_getElem? hi)
    refine XE.to (by walk_at "x") ?_
    rw [decide_eq_true v1, decide_eq_true v2]
    rfl
  · rw [bls_true]
    have z := xc_all (K := K) (ns := (ws.map D.int).map fun _ => true)
    rw [all_true] at z
    exact z
  · rw [g1, g2]
    rfl
abbrev s_are_notes : Stmt := top 32
theorem sc_are_notes : FnScope ["values", "value"] ["values"] (defScope s_are_notes) := ⟨rfl, rfl, rfl, by decide +kernel, rfl, by decide +kernel, by decide +kernel⟩
theorem pr_are_notes (F : DefAt K mg "are_notes" s_are_notes) (T : Txt K mg C eRow) : Pr P w K mg base (k + 1) "are_notes" ["values"] (spD K Rnotes) := by
  refine pr_mk F sc_are_notes (fun _ _ _ _ _ _ us hl => match us, hl with | [_], _ => rfl) (fun ds d ⟨ws, _, _, e, _⟩ => by rw [e]; rfl) fun f cdv A outer s0 H E hr => ⟨_, (pss_one (ps_ret (pe_and (pe_cmpR op_leU (pe_callB (call_lenK (K := K) rfl) (by rfl) T.len PySem.boot_len (pa_cons (pv 0) pa_nil)) (pe_gI T.g_NOTE_LIMIT rfl) (nomark _)) (pe_one (pe_callB (call_allK (K := K) rfl rfl) (by rfl) T.all (by decide +kernel) (pa_cons (pe_lc (own := [("value", 1)]) rfl sc_are_notes.nd (pi_tupK (K := K) rfl (pv 0)) (blkOk_by (by kernel_rfl)) (fun _ _ _ _ _ => (pg_name (i := 1) sc_are_notes.nd rfl (by first | exact .inl rfl | exact .inr rfl))) (fun _ _ _ _ _ => pts_nil) (fun _ _ _ _ _ => (pe_chain op_leU op_leU (pe_int) (pv 1) (pe_gI T.g_NOTE_GREATEST rfl)))) pa_nil)))))), ?_⟩
  rintro ds d ⟨ws, h3, hv, rfl, rfl⟩
  have hl : (ws.map D.int).length = ws.length := List.length_map _
  have g2 : decide ((((ws.map D.int).length : Nat) : Int) ≤ 12) = true := decide_eq_true (by omega)
  refine xs_ret' (xe_and (b := true) (by walk_at "x") fun _ => xe_cb (xa_cons (xe_lcm (fun _ => .bl true) (xi_tup (by walk_at "x")) (by omega) fun m d hd => ?_) xa_nil) ?_) ?_
  · obtain ⟨i, hi, rfl⟩ := map_at hd
    obtain ⟨v1, v2⟩ := hv i (List.mem_of_getElem? hi)
    refine XE.to (by walk_at "x") ?_
    rw [decide_eq_true v1, decide_eq_true v2]
    rfl
  · rw [bls_true]
    have z := xc_all (K := K) (ns := (ws.map D.int).map fun _ => true)
    rw [all_true] at z
    exact z
  · rw [g2]
    rfl
abbrev s_is_leaf : Stmt := top 33
theorem sc_is_leaf : FnScope ["leaf"] ["leaf"] (defScope s_is_leaf) := ⟨rfl, rfl, rfl, by decide +kernel, rfl, by decide +kernel, by decide +kernel⟩
theorem pr_is_leaf (F : DefAt K mg "is_leaf" s_is_leaf) (T : Txt K mg C eRow) (h_is_name : Pr P w K mg base 1 "is_name" ["value"] (spD K Risn)) (h_are_worths : Pr P w K mg base 1 "are_worths" ["values"] (spD K Rworths)) (h_are_notes : Pr P w K mg base 1 "are_notes" ["values"] (spD K Rnotes)) :
    Pr P w K mg base 2 "is_leaf" ["leaf"] (spD K RisLeaf) := by
  refine pr_mk F sc_is_leaf (fun _ _ _ _ _ _ us hl => match us, hl with | [_], _ => rfl) (fun ds d ⟨q, l, _, e, _⟩ => by rw [e]; rfl) fun f cdv A outer s0 H E hr => ⟨_, (pss_one (ps_ret (pe_and (pe_callD h_is_name (hr.mono (by omega)) rfl (pa_cons (pe_ix (ix_K (K := K) rfl) (pv 0) (pe_int) (fun _ _ => rfl)) pa_nil)) (pe_and (pe_callD h_are_worths (hr.mono (by omega)) rfl (pa_cons (pe_ix (ix_K (K := K) rfl) (pv 0) (pe_int) (fun _ _ => rfl)) pa_nil)) (pe_one (pe_callD h_are_notes (hr.mono (by omega)) rfl (pa_cons (pe_ix (ix_K (K := K) rfl) (pv 0) (pe_int) (fun _ _ => rfl)) pa_nil))))))), ?_⟩
  rintro ds d ⟨q, l, hl, rfl, rfl⟩
  have h1 := hl.nm
  have h2 : 1 ≤ l.ws.length ∧ l.ws.length ≤ 3 := by rw [hl.wl]; exact ⟨hl.q1, hl.q3⟩
  have h3 := hl.wv
  have h4 := hl.nl
  have h5 := hl.nv
  refine xs_ret' (by walk_at "x") ?_
  rfl
abbrev s_is_inside : Stmt := top 36
theorem sc_is_inside : FnScope ["side", "place", "bit", "least", "greatest", "parted"] ["side", "place", "bit"] (defScope s_is_inside) := ⟨rfl, rfl, rfl, by decide +kernel, rfl, by decide +kernel, by decide +kernel⟩
theorem pr_is_inside (F : DefAt K mg "is_inside" s_is_inside) (T : Txt K mg C eRow) (h_least_of : Pr P w K mg base 1 "least_of" ["tree"] (spD K Rleast)) (h_greatest_of : Pr P w K mg base 1 "greatest_of" ["tree"] (spD K Rgreat))
    (h_parting : Pr P w K mg base 2 "parting" ["first", "second"] (spD K Rpart)) (h_bit_at : Pr P w K mg base 2 "bit_at" ["name", "place"] (spD K Rbit)) : Pr P w K mg base 3 "is_inside" ["side", "place", "bit"] (spD K RisIn) := by
  refine pr_mk F sc_is_inside (fun _ _ _ _ _ _ us hl => match us, hl with | [_, _, _], _ => rfl) (fun ds d ⟨q, t, i, x, _, _, e, _⟩ => by rw [e]; rfl) fun f cdv A outer s0 H E hr => ⟨_, (pss_cons (ps_par (i := 3) (j := 4) (by rfl) sc_is_inside.nd rfl rfl (by decide) rfl rfl (pa_cons (pe_callD h_least_of (hr.mono (by omega)) rfl (pa_cons (pv 0) pa_nil)) (pa_cons (pe_callD h_greatest_of (hr.mono (by omega)) rfl (pa_cons (pv 0) pa_nil)) pa_nil)) (by rfl))
    (pss_cons (ps_set (i := 5) sc_is_inside.nd rfl (by first | exact .inl rfl | exact .inr rfl) (pe_callD h_parting (hr.mono (by omega)) rfl (pa_cons (pv 3) (pa_cons (pv 4) pa_nil))))
    (pss_one (ps_ret (pe_and (pe_cmpR op_eq (pe_callD h_bit_at (hr.mono (by omega)) rfl (pa_cons (pv 3) (pa_cons (pv 1) pa_nil))) (pv 2) (nomark _)) (pe_and (pe_cmpR op_eq (pe_callD h_bit_at (hr.mono (by omega)) rfl (pa_cons (pv 4) (pa_cons (pv 1) pa_nil))) (pv 2) (nomark _)) (pe_one (pe_or (pe_cmpR op_isN (pv 5) pe_non (nomark _)) (pe_one (pe_cmpR op_gtU (pv 5) (pv 1) (nomark _))))))))))), ?_⟩
  rintro ds d ⟨q, t, i, x, ht, hi, rfl, rfl⟩
  have h1 := least_nm ht
  have h2 := great_nm ht
  refine xs_seq (xs_par (by walk_at "x")) ?_
  refine xs_seq (xs_set (by walk_at "x")) ?_
  unfold isInside
  cases e : partg (least t) (great t) with
  | none =>
    dsimp only [encOI]
    exact xs_ret (xe_and (by walk_at "x") fun _ => xe_and (by walk_at "x") fun _ => XE.to (xe_or (a := D.isN .non) (b := true) (by walk_at "x") fun h => absurd h (by decide)) rfl)
  | some j =>
    dsimp only [encOI]
    exact xs_ret (xe_and (by walk_at "x") fun _ => xe_and (by walk_at "x") fun _ => XE.to (xe_or (a := D.isN (.int j)) (b := decide (i < j)) (by walk_at "x") fun _ => by walk_at "x") rfl)
abbrev s_are_sides : Stmt := top 35
theorem sc_are_sides : FnScope ["left", "right", "place"] ["left", "right"] (defScope s_are_sides) := ⟨rfl, rfl, rfl, by decide +kernel, rfl, by decide +kernel, by decide +kernel⟩
theorem pr_are_sides (F : DefAt K mg "are_sides" s_are_sides) (T : Txt K mg C eRow) (h_least_of : Pr P w K mg base 1 "least_of" ["tree"] (spD K Rleast)) (h_greatest_of : Pr P w K mg base 1 "greatest_of" ["tree"] (spD K Rgreat))
    (h_parting : Pr P w K mg base 2 "parting" ["first", "second"] (spD K Rpart)) (h_bit_at : Pr P w K mg base 2 "bit_at" ["name", "place"] (spD K Rbit)) (h_is_inside : Pr P w K mg base 3 "is_inside" ["side", "place", "bit"] (spD K RisIn)) :
    Pr P w K mg base 4 "are_sides" ["left", "right"] (spD K RareSides) := by
  refine pr_mk F sc_are_sides (fun _ _ _ _ _ _ us hl => match us, hl with | [_, _], _ => rfl) (fun ds d ⟨q, a, b, _, _, e, _⟩ => by rw [e]; rfl) fun f cdv A outer s0 H E hr => ⟨_, (pss_cons (ps_set (i := 2) sc_are_sides.nd rfl (by first | exact .inl rfl | exact .inr rfl) (pe_callD h_parting (hr.mono (by omega)) rfl (pa_cons (pe_callD h_least_of (hr.mono (by omega)) rfl (pa_cons (pv 0) pa_nil)) (pa_cons (pe_callD h_greatest_of (hr.mono (by omega)) rfl (pa_cons (pv 1) pa_nil)) pa_nil))))
    (pss_cons (ps_if (pt_cmpR op_isN (pv 2) pe_non (nomark _)) (pss_one (ps_ret (pe_bl))) pss_nil)
    (pss_cons (ps_if (pt_cmpR op_ne (pe_callD h_bit_at (hr.mono (by omega)) rfl (pa_cons (pe_callD h_least_of (hr.mono (by omega)) rfl (pa_cons (pv 0) pa_nil)) (pa_cons (pv 2) pa_nil))) (pe_int) (nomark _)) (pss_one (ps_ret (pe_bl))) pss_nil)
    (pss_one (ps_ret (pe_and (pe_callD h_is_inside (hr.mono (by omega)) rfl (pa_cons (pv 0) (pa_cons (pv 2) (pa_cons (pe_int) pa_nil)))) (pe_one (pe_callD h_is_inside (hr.mono (by omega)) rfl (pa_cons (pv 1) (pa_cons (pv 2) (pa_cons (pe_int) pa_nil))))))))))), ?_⟩
  rintro ds d ⟨q, a, b, ha, hb, rfl, rfl⟩
  have h1 := least_nm ha
  have h2 := great_nm hb
  refine xs_seq (xs_set (by walk_at "x")) ?_
  unfold areSides
  cases e : partg (least a) (great b) with
  | none =>
    dsimp only [encOI]
    refine xs_ifs (b := D.isN .non) (by walk_at "x") (fun _ => xs_seqr ?_) fun h => absurd h (by decide)
    exact xs_ret (by walk_at "x")
  | some j =>
    have hj := partg_rng h1 h2 e
    dsimp only [encOI]
    refine xs_ifs (b := D.isN (.int j)) (by walk_at "x") (fun h => by cases h) fun _ => xs_nseq ?_
    refine xs_ifs (by walk_at "x") (fun h => xs_seqr ?_) fun h => xs_nseq ?_
    · refine xs_ret' (by walk_at "x") ?_
      have h' : decide (bitAt (least a) j = 0) = false := by simpa using h
      show D.bl false = D.bl (decide (bitAt (least a) j = 0) && _)
      rw [h']
      rfl
    · refine xs_ret' (by walk_at "x") ?_
      have h' : decide (bitAt (least a) j = 0) = true := by simpa using h
      show _ = D.bl (decide (bitAt (least a) j = 0) && _)
      rw [h']
      rfl
end
end SG

namespace SG
open PySem L2
local macro_rules | `(tactic| walk_at "xR") => `(tactic| first
  | ((with_reducible show Rnum _ _); exact ⟨_, by assumption, rfl, rfl⟩)
  | ((with_reducible show Rbit _ _); exact ⟨_, _, by assumption, by first | assumption | decide | omega, rfl, rfl⟩)
  | ((with_reducible show Rpart _ _); exact ⟨_, _, by assumption, by assumption, rfl, rfl⟩)
  | ((with_reducible show Risn _ _); exact ⟨_, by assumption, rfl, rfl⟩)
  | ((with_reducible show Rleast _ _); exact ⟨_, _, by assumption, rfl, rfl⟩)
  | ((with_reducible show Rgreat _ _); exact ⟨_, _, by assumption, rfl, rfl⟩)
  | ((with_reducible show RlfRow _ _); exact ⟨_, _, by assumption, rfl, rfl⟩)
  | ((with_reducible show RsmNums _ _); exact ⟨_, _, by assumption, rfl, rfl⟩)
  | ((with_reducible show RbrRow _ _); exact ⟨_, _, _, by assumption, by assumption, rfl, rfl⟩)
  | ((with_reducible show RbrSm _ _ _); exact ⟨_, _, _, _, by assumption, by assumption, by assumption, rfl, rfl⟩)
  | ((with_reducible show Rworths _ _); exact ⟨_, by assumption, by assumption, rfl, rfl⟩)
  | ((with_reducible show Rnotes _ _); exact ⟨_, by assumption, by assumption, rfl, rfl⟩)
  | ((with_reducible show RisLeaf _ _); exact ⟨_, _, by assumption, rfl, rfl⟩)
  | ((with_reducible show RareSides _ _); exact ⟨_, _, _, by assumption, by assumption, rfl, rfl⟩)
  | ((with_reducible show RisIn _ _); exact ⟨_, _, _, _, by assumption, by assumption, rfl, rfl⟩)
  | ((with_reducible show Rsl _ _ _); exact ⟨_, _, by assumption, by first | assumption | omega, rfl, rfl⟩)
  | ((with_reducible show Rsumm _ _ _ _); exact ⟨_, _, _, by assumption, by assumption, by first | assumption | omega, rfl, rfl⟩)
  | ((with_reducible show Rtop _ _ _ _); exact ⟨_, _, _, by assumption, by assumption, rfl, rfl⟩)
  | ((with_reducible show Rroot _ _ _ _); exact ⟨_, _, _, by assumption, by assumption, rfl, rfl⟩)
  | ((with_reducible show Rkinds _ _ _); exact ⟨_, _, by assumption, by first | assumption | omega, rfl, rfl⟩)
  | ((with_reducible show Rvalid _ _ _ _); exact ⟨_, _, _, by assumption, by first | assumption | omega, rfl, rfl⟩)
  | ((with_reducible show Rorder _ _ _); exact ⟨_, _, by assumption, by first | assumption | omega, rfl, rfl⟩)
  | ((with_reducible show Rwf _ _ _ _); exact ⟨_, _, _, by assumption, rfl, rfl⟩)
  | ((with_reducible show RleafT _ _); exact ⟨_, _, _, by assumption, by assumption, rfl, rfl⟩)
  | ((with_reducible show RrangeT _ _); exact ⟨_, _, _, _, by assumption, by assumption, by assumption, rfl, rfl⟩)
  | ((with_reducible show RrankT _ _); exact ⟨_, _, _, by assumption, by assumption, rfl, rfl⟩)
  | ((with_reducible show RplaceT _ _); exact ⟨_, _, _, by assumption, rfl, rfl⟩)
  | ((with_reducible show RnextT _ _); exact ⟨_, _, _, by assumption, by assumption, rfl, rfl⟩)
  | ((with_reducible show Rtold _ _); exact ⟨_, _, _, by assumption, by assumption, by assumption, rfl, rfl⟩)
  | ((with_reducible show RsideQ _ _); exact ⟨_, _, _, _, by assumption, by assumption, by assumption, rfl, rfl⟩)
  | ((with_reducible show Rjoin _ _); exact ⟨_, _, _, _, _, by assumption, by assumption, by assumption, rfl, rfl⟩)
  | ((with_reducible show Rempty _ _); exact ⟨_, by assumption, rfl, rfl⟩)
  | ((with_reducible show Rask0 _ _ _ _); exact ⟨_, _, _, _, by assumption, by assumption, by assumption, by assumption, rfl, rfl⟩)
  | ((with_reducible show Rcell _ _); exact ⟨_, _, by assumption, by first | assumption | omega, rfl, rfl⟩)
  | ((with_reducible show Rname _ _); exact ⟨_, rfl, rfl⟩)
  | ((with_reducible show Rmod _ _); exact ⟨_, rfl, rfl⟩)
  | ((with_reducible show Rlsl _ _); exact ⟨_, _, by assumption, by first | assumption | omega, rfl, rfl⟩)
  | ((with_reducible show Rlrow _ _ _); exact ⟨_, _, _, by assumption, by assumption, by first | assumption | omega, rfl, rfl⟩)
  | ((with_reducible show Rlsum _ _ _); exact ⟨_, _, _, by assumption, by assumption, by first | assumption | omega, rfl, rfl⟩)
  | ((with_reducible show Rltop _ _ _); exact ⟨_, _, _, by assumption, by assumption, rfl, rfl⟩)
  | ((with_reducible show Rlroot _ _ _); exact ⟨_, _, _, by assumption, by assumption, rfl, rfl⟩)
  | ((with_reducible show Rbits _ _); exact ⟨_, by assumption, rfl, rfl⟩)
  | ((with_reducible show Rquest _ _); exact ⟨_, rfl, rfl⟩)
  | ((with_reducible show Rsums _ _); exact ⟨_, _, by assumption, by first | assumption | omega, rfl, rfl⟩)
  | skip)
local macro_rules | `(tactic| walk_at "sub") => `(tactic| repeat first | exact sub_nil | refine sub_none ?_ | refine sub_same ?_)
local macro_rules | `(tactic| walk_at "xl") => `(tactic| first | decide | (simp only [List.length_cons, List.length_nil, List.length_append, List.length_map]; omega) | skip)
local macro_rules | `(tactic| walk_at "xr") => `(tactic| first
  | with_reducible exact xr_addI | with_reducible exact xr_sub | with_reducible exact xr_eqS | with_reducible exact xr_eqI | with_reducible exact xr_isN | with_reducible exact xr_notN
  | with_reducible exact xr_ltI | with_reducible exact xr_leI | with_reducible exact xr_gtI | with_reducible exact xr_geI | with_reducible exact xr_neS | with_reducible exact xr_neI
  | with_reducible exact xr_ltS | with_reducible exact xr_leS | with_reducible exact xr_gtS | with_reducible exact xr_inC | with_reducible exact xr_xor
  | ((with_reducible apply xr_ixTi); (next => decide); (next => exact rfl))
  | ((with_reducible apply xr_ixLi); (next => decide); (next => exact rfl))
  | ((with_reducible apply xr_addT); walk_at "xl") | ((with_reducible apply xr_addL); walk_at "xl") | ((with_reducible apply xr_addS); walk_at "xl")
  | ((with_reducible apply xr_mulI); first | exact .inl ⟨by decide, by decide⟩ | exact .inr ⟨by decide, by decide⟩ | exact .inl ⟨by omega, by omega⟩ | exact .inr ⟨by omega, by omega⟩ | skip)
  | ((with_reducible apply xr_fdiv); first | exact ⟨by decide, by decide⟩ | exact ⟨by omega, by omega⟩ | skip) | ((with_reducible apply xr_mod); first | assumption | decide | omega | skip) | ((with_reducible apply xr_shr); first | decide | omega | skip)
  | skip)
local macro_rules | `(tactic| walk_at "xc") => `(tactic| first
  | with_reducible exact xc_lenT | with_reducible exact xc_lenL | with_reducible exact xc_lenQ | with_reducible exact xc_int | with_reducible exact xc_abs | with_reducible exact xc_listT | with_reducible exact xc_tupL
  | ((with_reducible apply xc_lenS); first | assumption | omega | skip) | with_reducible exact xc_sum | with_reducible exact xc_all | skip)
local macro_rules | `(tactic| walk_at "xe") => `(tactic| first
  | ((with_reducible apply xe_var); exact rfl) | with_reducible exact xe_int | with_reducible exact xe_str | with_reducible exact xe_non | with_reducible exact xe_bl
  | ((with_reducible apply xe_op) <;> walk_at "x") | ((with_reducible apply xe_tup) <;> walk_at "x") | ((with_reducible apply xe_cb) <;> walk_at "x")
  | ((with_reducible apply xe_call) <;> walk_at "x") | ((with_reducible apply xe_lst) <;> walk_at "x")
  | ((with_reducible apply xe_meth) <;> walk_at "x") | ((with_reducible apply xe_bits) <;> walk_at "x") | ((with_reducible apply xe_not) <;> walk_at "x")
  | ((with_reducible apply xe_and) <;> walk_at "x") | ((with_reducible apply xe_or) <;> walk_at "x") | ((with_reducible apply xe_chain) <;> walk_at "x")
  | ((with_reducible apply xe_slT) <;> walk_at "x") | ((with_reducible apply xe_fld) <;> walk_at "x") | skip)
local macro_rules | `(tactic| walk_at "x") => `(tactic| first
  | ((with_reducible show XE _ _ _ _); walk_at "xe") | ((with_reducible show XR _ _ _ _ _); walk_at "xr") | ((with_reducible show XC _ _ _ _); walk_at "xc")
  | with_reducible exact xa_nil | ((with_reducible apply xa_cons) <;> walk_at "x")
  | ((with_reducible apply xt_test) <;> walk_at "x") | ((with_reducible apply xt_B) <;> walk_at "x") | ((with_reducible apply xt_and) <;> walk_at "x") | ((with_reducible apply xt_or) <;> walk_at "x")
  | ((with_reducible apply xt_not) <;> walk_at "x") | with_reducible exact xt_yes
  | with_reducible exact xo_none | ((with_reducible apply xo_some) <;> walk_at "x")
  | ((with_reducible show List.length _ ≤ 100000); walk_at "xl") | ((with_reducible show (_ == _) = false); decide +kernel) | ((with_reducible show Cls _ _); assumption) | ((with_reducible show NoAttr _ _ _); assumption) | ((with_reducible intro _); walk_at "x") | walk_at "xR")
local macro_rules | `(tactic| walk_at "if0") => `(tactic| (refine xs_ifs (b := false) (XT.to (by walk_at "x") (by decide +kernel)) (fun h => (by cases h)) fun _ => xs_nseq ?_))
local macro_rules | `(tactic| walk_at "if1") => `(tactic| (refine xs_ifs (b := true) (XT.to (by walk_at "x") (by decide +kernel)) (fun _ => xs_seqr ?_) fun h => (by cases h)))
local macro_rules | `(tactic| walk_at "ret") => `(tactic| ((refine xs_ret' (by walk_at "x") ?_); (first | done | rfl | skip)))

section
variable {P : Program} {w : World} {K : PySem.W.Frag} {mg : Str → Option Value} {base : Heap} {C eRow : Addr} {k : Nat}
abbrev s_kinds_of : Stmt := top 37
theorem sc_kinds_of : FnScope ["tree", "left", "right"] ["tree"] (defScope s_kinds_of) := ⟨rfl, rfl, rfl, by decide +kernel, rfl, by decide +kernel, by decide +kernel⟩
theorem pr_kinds_of (F : DefAt K mg "kinds_of" s_kinds_of) (T : Txt K mg C eRow) : ∀ n, Pr P w K mg base n "kinds_of" ["tree"] (spD K (Rkinds n))
  | 0 => pr_none F (fun _ _ _ _ _ _ us hl => match us, hl with | [_], _ => rfl) (fun ds d ⟨q, t, _, h, _⟩ => by have := t.dep_pos; omega) 0
  | n + 1 => by
    have h_kinds_of := pr_kinds_of F T n
    refine pr_mk F sc_kinds_of (fun _ _ _ _ _ _ us hl => match us, hl with | [_], _ => rfl) (fun ds d ⟨q, t, _, _, e, _⟩ => by rw [e]; rfl) fun f cdv A outer s0 H E hr => ⟨_, (pss_cons (ps_if (pt_cmpR op_eq (pe_ix (ix_K (K := K) rfl) (pv 0) (pe_int) (fun _ _ => rfl)) (pe_str) (nomark _)) (pss_one (ps_ret (pe_callB (call_lenK (K := K) rfl) (by rfl) T.len PySem.boot_len (pa_cons (pe_ix (ix_K (K := K) rfl) (pv 0) (pe_int) (fun _ _ => rfl)) pa_nil)))) pss_nil)
    (pss_cons (ps_if (pt_cmpR op_eq (pe_ix (ix_K (K := K) rfl) (pv 0) (pe_int) (fun _ _ => rfl)) (pe_str) (nomark _)) pss_never pss_nil)
    (pss_cons (ps_par (i := 1) (j := 2) (by rfl) sc_kinds_of.nd rfl rfl (by decide) rfl rfl (pa_cons (pe_callD h_kinds_of (hr.mono (by omega)) rfl (pa_cons (pe_ix (ix_K (K := K) rfl) (pv 0) (pe_int) (fun _ _ => rfl)) pa_nil)) (pa_cons (pe_callD h_kinds_of (hr.mono (by omega)) rfl (pa_cons (pe_ix (ix_K (K := K) rfl) (pv 0) (pe_int) (fun _ _ => rfl)) pa_nil)) pa_nil)) (by rfl))
    (pss_cons (ps_if (pt_cmpR op_ne (pv 1) (pv 2) (nomark _)) (pss_one (ps_ret (pe_int))) pss_nil)
    (pss_one (ps_ret (pv 1))))))), ?_⟩
    rintro ds d ⟨q, t, ht, hd, rfl, rfl⟩
    cases t with
    | lf l =>
      dsimp only [encT]
      refine xs_ifs (b := true) (XT.to (by walk_at "x") str_eq1) (fun _ => xs_seqr ?_) fun h => by cases h
      refine xs_ret' (by walk_at "x") ?_
      rw [List.length_map, ht.lf.wl]
    | br a b =>
      dsimp only [encT]
      have ha := ht.l
      have hb := ht.r
      have da := dep_l hd
      have db := dep_r hd
      refine xs_ifs (b := false) (XT.to (by walk_at "x") str_ne4) (fun h => by cases h) fun _ => xs_nseq ?_
      refine xs_ifs (b := false) (XT.to (by walk_at "x") str_ne3) (fun h => by cases h) fun _ => xs_nseq ?_
      refine xs_seq (xs_par (d := .int (q : Nat)) (e := .int (q : Nat)) (by walk_at "x")) ?_
      refine xs_ifs (b := !decide (((q : Nat) : Int) = (q : Nat))) (by walk_at "x") (fun h => by simp at h) fun _ => xs_nseq ?_
      exact xs_ret (by walk_at "x")
abbrev s_has_valid_parts : Stmt := top 38
theorem sc_has_valid_parts : FnScope ["sealer", "tree"] ["sealer", "tree"] (defScope s_has_valid_parts) := ⟨rfl, rfl, rfl, by decide +kernel, rfl, by decide +kernel, by decide +kernel⟩
theorem pr_has_valid_parts (F : DefAt K mg "has_valid_parts" s_has_valid_parts) (T : Txt K mg C eRow) (h_is_leaf : Pr P w K mg base 2 "is_leaf" ["leaf"] (spD K RisLeaf)) : ∀ n, Pr P w K mg base (2 + n) "has_valid_parts" ["sealer", "tree"] (spD K (Rvalid C n))
  | 0 => pr_none F (fun _ _ _ _ _ _ us hl => match us, hl with | [_, _], _ => rfl) (fun ds d ⟨p, q, t, _, h, _⟩ => by have := t.dep_pos; omega) 2
  | n + 1 => by
    have h_has_valid_parts := pr_has_valid_parts F T h_is_leaf n
    refine pr_mk (k := 2 + n) F sc_has_valid_parts (fun _ _ _ _ _ _ us hl => match us, hl with | [_, _], _ => rfl) (fun ds d ⟨p, q, t, _, _, e, _⟩ => by rw [e]; rfl) fun f cdv A outer s0 H E hr => ⟨_, (pss_cons (ps_if (pt_cmpR op_isN (pv 1) pe_non (nomark _)) (pss_one (ps_ret (pe_bl))) pss_nil)
    (pss_cons (ps_if (pt_cmpR op_eq (pe_ix (ix_K (K := K) rfl) (pv 1) (pe_int) (fun _ _ => rfl)) (pe_str) (nomark _)) (pss_one (ps_ret (pe_callD h_is_leaf (hr.mono (by omega)) rfl (pa_cons (pv 1) pa_nil)))) pss_nil)
    (pss_cons (ps_if (pt_cmpR op_eq (pe_ix (ix_K (K := K) rfl) (pv 1) (pe_int) (fun _ _ => rfl)) (pe_str) (nomark _)) pss_never pss_nil)
    (pss_one (ps_ret (pe_and (pe_callD h_has_valid_parts (hr.mono (by omega)) rfl (pa_cons (pv 0) (pa_cons (pe_ix (ix_K (K := K) rfl) (pv 1) (pe_int) (fun _ _ => rfl)) pa_nil))) (pe_one (pe_callD h_has_valid_parts (hr.mono (by omega)) rfl (pa_cons (pv 0) (pa_cons (pe_ix (ix_K (K := K) rfl) (pv 1) (pe_int) (fun _ _ => rfl)) pa_nil)))))))))), ?_⟩
    rintro ds d ⟨p, q, t, ht, hd, rfl, rfl⟩
    refine xs_ifs (b := false) (XT.to (by walk_at "x") (encT_ne t)) (fun h => by cases h) fun _ => xs_nseq ?_
    cases t with
    | lf l =>
      dsimp only [encT]
      have hl := ht.lf
      refine xs_ifs (b := true) (XT.to (by walk_at "x") str_eq1) (fun _ => xs_seqr ?_) fun h => by cases h
      exact xs_ret (by walk_at "x")
    | br a b =>
      dsimp only [encT]
      have ha := ht.l
      have hb := ht.r
      have da := dep_l hd
      have db := dep_r hd
      refine xs_ifs (b := false) (XT.to (by walk_at "x") str_ne4) (fun h => by cases h) fun _ => xs_nseq ?_
      refine xs_ifs (b := false) (XT.to (by walk_at "x") str_ne3) (fun h => by cases h) fun _ => xs_nseq ?_
      exact xs_ret' (xe_and (a := true) (b := true) (by walk_at "x") fun _ => by walk_at "x") rfl
abbrev s_has_order : Stmt := top 39
theorem sc_has_order : FnScope ["tree"] ["tree"] (defScope s_has_order) := ⟨rfl, rfl, rfl, by decide +kernel, rfl, by decide +kernel, by decide +kernel⟩
theorem pr_has_order (F : DefAt K mg "has_order" s_has_order) (T : Txt K mg C eRow) (h_are_sides : Pr P w K mg base 4 "are_sides" ["left", "right"] (spD K RareSides)) : ∀ n, Pr P w K mg base (4 + n) "has_order" ["tree"] (spD K (Rorder n))
  | 0 => pr_none F (fun _ _ _ _ _ _ us hl => match us, hl with | [_], _ => rfl) (fun ds d ⟨q, t, _, h, _⟩ => by have := t.dep_pos; omega) 4
  | n + 1 => by
    have h_has_order := pr_has_order F T h_are_sides n
    refine pr_mk (k := 4 + n) F sc_has_order (fun _ _ _ _ _ _ us hl => match us, hl with | [_], _ => rfl) (fun ds d ⟨q, t, _, _, e, _⟩ => by rw [e]; rfl) fun f cdv A outer s0 H E hr => ⟨_, (pss_cons (ps_if (pt_cmpR op_ne (pe_ix (ix_K (K := K) rfl) (pv 0) (pe_int) (fun _ _ => rfl)) (pe_str) (nomark _)) (pss_one (ps_ret (pe_bl))) pss_nil)
    (pss_one (ps_ret (pe_and (pe_callD h_are_sides (hr.mono (by omega)) rfl (pa_cons (pe_ix (ix_K (K := K) rfl) (pv 0) (pe_int) (fun _ _ => rfl)) (pa_cons (pe_ix (ix_K (K := K) rfl) (pv 0) (pe_int) (fun _ _ => rfl)) pa_nil))) (pe_and (pe_callD h_has_order (hr.mono (by omega)) rfl (pa_cons (pe_ix (ix_K (K := K) rfl) (pv 0) (pe_int) (fun _ _ => rfl)) pa_nil)) (pe_one (pe_callD h_has_order (hr.mono (by omega)) rfl (pa_cons (pe_ix (ix_K (K := K) rfl) (pv 0) (pe_int) (fun _ _ => rfl)) pa_nil)))))))), ?_⟩
    rintro ds d ⟨q, t, ht, hd, rfl, rfl⟩
    cases t with
    | lf l =>
      dsimp only [encT]
      refine xs_ifs (b := true) (XT.to (by walk_at "x") (show (!decide (("leaf" : Str) = "branch")) = true by rw [str_ne1]; rfl)) (fun _ => xs_seqr ?_) fun h => by cases h
      exact xs_ret xe_bl
    | br a b =>
      dsimp only [encT]
      have ha := ht.l
      have hb := ht.r
      have da := dep_l hd
      have db := dep_r hd
      refine xs_ifs (b := false) (XT.to (by walk_at "x") (show (!decide (("branch" : Str) = "branch")) = false by rw [str_eq2]; rfl)) (fun h => by cases h) fun _ => xs_nseq ?_
      refine xs_ret' (by walk_at "x") ?_
      rfl
abbrev s_is_well_formed : Stmt := top 40
theorem sc_is_well_formed : FnScope ["sealer", "tree"] ["sealer", "tree"] (defScope s_is_well_formed) := ⟨rfl, rfl, rfl, by decide +kernel, rfl, by decide +kernel, by decide +kernel⟩
theorem pr_is_well_formed (F : DefAt K mg "is_well_formed" s_is_well_formed) (T : Txt K mg C eRow) {n : Nat} (h_has_valid_parts : Pr P w K mg base (2 + n) "has_valid_parts" ["sealer", "tree"] (spD K (Rvalid C n))) (h_kinds_of : Pr P w K mg base n "kinds_of" ["tree"] (spD K (Rkinds n)))
    (h_has_order : Pr P w K mg base (4 + n) "has_order" ["tree"] (spD K (Rorder n))) : Pr P w K mg base (5 + n) "is_well_formed" ["sealer", "tree"] (spD K (Rwf C n)) := by
  have e5 : 5 + n = (4 + n) + 1 := by omega
  rw [e5]
  refine pr_mk F sc_is_well_formed (fun _ _ _ _ _ _ us hl => match us, hl with | [_, _], _ => rfl) (fun ds d ⟨p, q, o, _, e, _⟩ => by rw [e]; rfl) fun f cdv A outer s0 H E hr => ⟨_, (pss_cons (ps_if (pt_cmpR op_isN (pv 1) pe_non (nomark _)) (pss_one (ps_ret (pe_bl))) pss_nil)
    (pss_one (ps_ret (pe_and (pe_callD h_has_valid_parts (hr.mono (by omega)) rfl (pa_cons (pv 0) (pa_cons (pv 1) pa_nil))) (pe_and (pe_cmpR op_gtU (pe_callD h_kinds_of (hr.mono (by omega)) rfl (pa_cons (pv 1) pa_nil)) (pe_int) (nomark _)) (pe_one (pe_callD h_has_order (hr.mono (by omega)) rfl (pa_cons (pv 1) pa_nil)))))))), ?_⟩
  rintro ds d ⟨p, q, o, ho, rfl, rfl⟩
  cases o with
  | none =>
    refine xs_ifs (b := true) (XT.to (by walk_at "x") (show D.isN (encTo none) = true from rfl)) (fun _ => xs_seqr ?_) fun h => by cases h
    exact xs_ret xe_bl
  | some t =>
    obtain ⟨ht, hd⟩ := ho t rfl
    have hq := ht.q13
    have g : decide ((0 : Int) < (q : Nat)) = true := decide_eq_true (by omega)
    refine xs_ifs (b := false) (XT.to (by walk_at "x") (show D.isN (encTo (some t)) = false from encT_ne t)) (fun h => by cases h) fun _ => xs_nseq ?_
    refine xs_ret' (xe_and (a := true) (xe_call (by walk_at "x") ⟨p, q, t, ht, hd, rfl, rfl⟩) fun _ => xe_and (xe_op (d := .int (q : Nat)) (xe_call (by walk_at "x") ⟨q, t, ht, hd, rfl, rfl⟩) xe_int xr_gtI) fun _ => xe_call (d := .bl (hasOrder t)) (by walk_at "x") ⟨q, t, ht, hd, rfl, rfl⟩) ?_
    rw [g]
    rfl
end
end SG

namespace SG
open PySem L2
local macro_rules | `(tactic| walk_at "xR") => `(tactic| first
  | ((with_reducible show Rnum _ _); exact ⟨_, by assumption, rfl, rfl⟩)
  | ((with_reducible show Rbit _ _); exact ⟨_, _, by assumption, by first | assumption | decide | omega, rfl, rfl⟩)
  | ((with_reducible show Rpart _ _); exact ⟨_, _, by assumption, by assumption, rfl, rfl⟩)
  | ((with_reducible show Risn _ _); exact ⟨_, by assumption, rfl, rfl⟩)
  | ((with_reducible show Rleast _ _); exact ⟨_, _, by assumption, rfl, rfl⟩)
  | ((with_reducible show Rgreat _ _); exact ⟨_, _, by assumption, rfl, rfl⟩)
  | ((with_reducible show RlfRow _ _); exact ⟨_, _, by assumption, rfl, rfl⟩)
  | ((with_reducible show RsmNums _ _); exact ⟨_, _, by assumption, rfl, rfl⟩)
  | ((with_reducible show RbrRow _ _); exact ⟨_, _, _, by assumption, by assumption, rfl, rfl⟩)
  | ((with_reducible show RbrSm _ _ _); exact ⟨_, _, _, _, by assumption, by assumption, by assumption, rfl, rfl⟩)
  | ((with_reducible show Rworths _ _); exact ⟨_, by assumption, by assumption, rfl, rfl⟩)
  | ((with_reducible show Rnotes _ _); exact ⟨_, by assumption, by assumption, rfl, rfl⟩)
  | ((with_reducible show RisLeaf _ _); exact ⟨_, _, by assumption, rfl, rfl⟩)
  | ((with_reducible show RareSides _ _); exact ⟨_, _, _, by assumption, by assumption, rfl, rfl⟩)
  | ((with_reducible show RisIn _ _); exact ⟨_, _, _, _, by assumption, by assumption, rfl, rfl⟩)
  | ((with_reducible show Rsl _ _ _); exact ⟨_, _, by assumption, by first | assumption | omega, rfl, rfl⟩)
  | ((with_reducible show Rsumm _ _ _ _); exact ⟨_, _, _, by assumption, by assumption, by first | assumption | omega, rfl, rfl⟩)
  | ((with_reducible show Rtop _ _ _ _); exact ⟨_, _, _, by assumption, by assumption, rfl, rfl⟩)
  | ((with_reducible show Rroot _ _ _ _); exact ⟨_, _, _, by assumption, by assumption, rfl, rfl⟩)
  | ((with_reducible show Rkinds _ _ _); exact ⟨_, _, by assumption, by first | assumption | omega, rfl, rfl⟩)
  | ((with_reducible show Rvalid _ _ _ _); exact ⟨_, _, _, by assumption, by first | assumption | omega, rfl, rfl⟩)
  | ((with_reducible show Rorder _ _ _); exact ⟨_, _, by assumption, by first | assumption | omega, rfl, rfl⟩)
  | ((with_reducible show Rwf _ _ _ _); exact ⟨_, _, _, by assumption, rfl, rfl⟩)
  | ((with_reducible show RleafT _ _); exact ⟨_, _, _, by assumption, by assumption, rfl, rfl⟩)
  | ((with_reducible show RrangeT _ _); exact ⟨_, _, _, _, by assumption, by assumption, by assumption, rfl, rfl⟩)
  | ((with_reducible show RrankT _ _); exact ⟨_, _, _, by assumption, by assumption, rfl, rfl⟩)
  | ((with_reducible show RplaceT _ _); exact ⟨_, _, _, by assumption, rfl, rfl⟩)
  | ((with_reducible show RnextT _ _); exact ⟨_, _, _, by assumption, by assumption, rfl, rfl⟩)
  | ((with_reducible show Rtold _ _); exact ⟨_, _, _, by assumption, by assumption, by assumption, rfl, rfl⟩)
  | ((with_reducible show RsideQ _ _); exact ⟨_, _, _, _, by assumption, by assumption, by assumption, rfl, rfl⟩)
  | ((with_reducible show Rjoin _ _); exact ⟨_, _, _, _, _, by assumption, by assumption, by assumption, rfl, rfl⟩)
  | ((with_reducible show Rempty _ _); exact ⟨_, by assumption, rfl, rfl⟩)
  | ((with_reducible show Rask0 _ _ _ _); exact ⟨_, _, _, _, by assumption, by assumption, by assumption, by assumption, rfl, rfl⟩)
  | ((with_reducible show Rcell _ _); exact ⟨_, _, by assumption, by first | assumption | omega, rfl, rfl⟩)
  | ((with_reducible show Rname _ _); exact ⟨_, rfl, rfl⟩)
  | ((with_reducible show Rmod _ _); exact ⟨_, rfl, rfl⟩)
  | ((with_reducible show Rlsl _ _); exact ⟨_, _, by assumption, by first | assumption | omega, rfl, rfl⟩)
  | ((with_reducible show Rlrow _ _ _); exact ⟨_, _, _, by assumption, by assumption, by first | assumption | omega, rfl, rfl⟩)
  | ((with_reducible show Rlsum _ _ _); exact ⟨_, _, _, by assumption, by assumption, by first | assumption | omega, rfl, rfl⟩)
  | ((with_reducible show Rltop _ _ _); exact ⟨_, _, _, by assumption, by assumption, rfl, rfl⟩)
  | ((with_reducible show Rlroot _ _ _); exact ⟨_, _, _, by assumption, by assumption, rfl, rfl⟩)
  | ((with_reducible show Rbits _ _); exact ⟨_, by assumption, rfl, rfl⟩)
  | ((with_reducible show Rquest _ _); exact ⟨_, rfl, rfl⟩)
  | ((with_reducible show Rsums _ _); exact ⟨_, _, by assumption, by first | assumption | omega, rfl, rfl⟩)
  | skip)
local macro_rules | `(tactic| walk_at "sub") => `(tactic| repeat first | exact sub_nil | refine sub_none ?_ | refine sub_same ?_)
local macro_rules | `(tactic| walk_at "xl") => `(tactic| first | decide | (simp only [List.length_cons, List.length_nil, List.length_append, List.length_map]; omega) | skip)
local macro_rules | `(tactic| walk_at "xr") => `(tactic| first
  | with_reducible exact xr_addI | with_reducible exact xr_sub | with_reducible exact xr_eqS | with_reducible exact xr_eqI | with_reducible exact xr_isN | with_reducible exact xr_notN
  | with_reducible exact xr_ltI | with_reducible exact xr_leI | with_reducible exact xr_gtI | with_reducible exact xr_geI | with_reducible exact xr_neS | with_reducible exact xr_neI
  | with_reducible exact xr_ltS | with_reducible exact xr_leS | with_reducible exact xr_gtS | with_reducible exact xr_inC | with_reducible exact xr_xor
  | ((with_reducible apply xr_ixTi); (next => decide); (next => exact rfl))
  | ((with_reducible apply xr_ixLi); (next => decide); (next => exact rfl))
  | ((with_reducible apply xr_addT); walk_at "xl") | ((with_reducible apply xr_addL); walk_at "xl") | ((with_reducible apply xr_addS); walk_at "xl")
  | ((with_reducible apply xr_mulI); first | exact .inl ⟨by decide, by decide⟩ | exact .inr ⟨by decide, by decide⟩ | exact .inl ⟨by omega, by omega⟩ | exact .inr ⟨by omega, by omega⟩ | skip)
  | ((with_reducible apply xr_fdiv); first | exact ⟨by decide, by decide⟩ | exact ⟨by omega, by omega⟩ | skip) | ((with_reducible apply xr_mod); first | assumption | decide | omega | skip) | ((with_reducible apply xr_shr); first | decide | omega | skip)
  | skip)
local macro_rules | `(tactic| walk_at "xc") => `(tactic| first
  | with_reducible exact xc_lenT | with_reducible exact xc_lenL | with_reducible exact xc_lenQ | with_reducible exact xc_int | with_reducible exact xc_abs | with_reducible exact xc_listT | with_reducible exact xc_tupL
  | ((with_reducible apply xc_lenS); first | assumption | omega | skip) | with_reducible exact xc_sum | with_reducible exact xc_all | skip)
local macro_rules | `(tactic| walk_at "xe") => `(tactic| first
  | ((with_reducible apply xe_var); exact rfl) | with_reducible exact xe_int | with_reducible exact xe_str | with_reducible exact xe_non | with_reducible exact xe_bl
  | ((with_reducible apply xe_op) <;> walk_at "x") | ((with_reducible apply xe_tup) <;> walk_at "x") | ((with_reducible apply xe_cb) <;> walk_at "x")
  | ((with_reducible apply xe_call) <;> walk_at "x") | ((with_reducible apply xe_lst) <;> walk_at "x")
  | ((with_reducible apply xe_meth) <;> walk_at "x") | ((with_reducible apply xe_bits) <;> walk_at "x") | ((with_reducible apply xe_not) <;> walk_at "x")
  | ((with_reducible apply xe_and) <;> walk_at "x") | ((with_reducible apply xe_or) <;> walk_at "x") | ((with_reducible apply xe_chain) <;> walk_at "x")
  | ((with_reducible apply xe_slT) <;> walk_at "x") | ((with_reducible apply xe_fld) <;> walk_at "x") | skip)
local macro_rules | `(tactic| walk_at "x") => `(tactic| first
  | ((with_reducible show XE _ _ _ _); walk_at "xe") | ((with_reducible show XR _ _ _ _ _); walk_at "xr") | ((with_reducible show XC _ _ _ _); walk_at "xc")
  | with_reducible exact xa_nil | ((with_reducible apply xa_cons) <;> walk_at "x")
  | ((with_reducible apply xt_test) <;> walk_at "x") | ((with_reducible apply xt_B) <;> walk_at "x") | ((with_reducible apply xt_and) <;> walk_at "x") | ((with_reducible apply xt_or) <;> walk_at "x")
  | ((with_reducible apply xt_not) <;> walk_at "x") | with_reducible exact xt_yes
  | with_reducible exact xo_none | ((with_reducible apply xo_some) <;> walk_at "x")
  | ((with_reducible show List.length _ ≤ 100000); walk_at "xl") | ((with_reducible show (_ == _) = false); decide +kernel) | ((with_reducible show Cls _ _); assumption) | ((with_reducible show NoAttr _ _ _); assumption) | ((with_reducible intro _); walk_at "x") | walk_at "xR")
local macro_rules | `(tactic| walk_at "if0") => `(tactic| (refine xs_ifs (b := false) (XT.to (by walk_at "x") (by decide +kernel)) (fun h => (by cases h)) fun _ => xs_nseq ?_))
local macro_rules | `(tactic| walk_at "if1") => `(tactic| (refine xs_ifs (b := true) (XT.to (by walk_at "x") (by decide +kernel)) (fun _ => xs_seqr ?_) fun h => (by cases h)))
local macro_rules | `(tactic| walk_at "ret") => `(tactic| ((refine xs_ret' (by walk_at "x") ?_); (first | done | rfl | skip)))

section
variable {P : Program} {w : World} {K : PySem.W.Frag} {mg : Str → Option Value} {base : Heap} {C eRow : Addr} {k : Nat}
abbrev s_leaf_told : Stmt := top 42
theorem sc_leaf_told : FnScope ["name", "summary"] ["name", "summary"] (defScope s_leaf_told) := ⟨rfl, rfl, rfl, by decide +kernel, rfl, by decide +kernel, by decide +kernel⟩
theorem pr_leaf_told (F : DefAt K mg "leaf_told" s_leaf_told) (T : Txt K mg C eRow) (h_number_of : Pr P w K mg base 1 "number_of" ["name"] (spD K Rnum)) : Pr P w K mg base 2 "leaf_told" ["name", "summary"] (spD K RleafT) := by
  refine pr_mk F sc_leaf_told (fun _ _ _ _ _ _ us hl => match us, hl with | [_, _], _ => rfl) (fun ds d ⟨x, q, s, _, _, e, _⟩ => by rw [e]; rfl) fun f cdv A outer s0 H E hr => ⟨_, (pss_cons (ps_if (pt_chain op_leU op_leU (pe_callD h_number_of (hr.mono (by omega)) rfl (pa_cons (pe_ix (ix_K (K := K) rfl) (pv 1) (pe_int) (fun _ _ => rfl)) pa_nil)) (pe_callD h_number_of (hr.mono (by omega)) rfl (pa_cons (pv 0) pa_nil)) (pe_callD h_number_of (hr.mono (by omega)) rfl (pa_cons (pe_ix (ix_K (K := K) rfl) (pv 1) (pe_int) (fun _ _ => rfl)) pa_nil))) (pss_one (ps_ret (pe_non))) pss_nil)
    (pss_one (ps_ret (pe_tup (pa_cons (pe_str) (pa_cons (pe_non) pa_nil)))))), ?_⟩
  rintro ds d ⟨x, q, s, hx, hs, rfl, rfl⟩
  have h1 := hs.lo
  have h2 := hs.hi
  unfold leafTold
  refine xs_ifs (by walk_at "x") (fun h => xs_seqr ?_) (fun h => xs_nseq ?_)
  · have h' : num s.lo ≤ num x ∧ num x ≤ num s.hi := by simpa using h
    rw [if_pos h']
    walk_at "ret"
  · have h' : ¬ (num s.lo ≤ num x ∧ num x ≤ num s.hi) := by simpa using h
    rw [if_neg h']
    walk_at "ret"
abbrev s_range_told : Stmt := top 43
theorem sc_range_told : FnScope ["low", "high", "summary", "least", "greatest"] ["low", "high", "summary"] (defScope s_range_told) := ⟨rfl, rfl, rfl, by decide +kernel, rfl, by decide +kernel, by decide +kernel⟩
theorem pr_range_told (F : DefAt K mg "range_told" s_range_told) (T : Txt K mg C eRow) (h_number_of : Pr P w K mg base 1 "number_of" ["name"] (spD K Rnum)) : Pr P w K mg base 2 "range_told" ["low", "high", "summary"] (spD K RrangeT) := by
  refine pr_mk F sc_range_told (fun _ _ _ _ _ _ us hl => match us, hl with | [_, _, _], _ => rfl) (fun ds d ⟨x, y, q, s, _, _, _, e, _⟩ => by rw [e]; rfl) fun f cdv A outer s0 H E hr => ⟨_, (pss_cons (ps_par (i := 3) (j := 4) (by rfl) sc_range_told.nd rfl rfl (by decide) rfl rfl (pa_cons (pe_callD h_number_of (hr.mono (by omega)) rfl (pa_cons (pe_ix (ix_K (K := K) rfl) (pv 2) (pe_int) (fun _ _ => rfl)) pa_nil)) (pa_cons (pe_callD h_number_of (hr.mono (by omega)) rfl (pa_cons (pe_ix (ix_K (K := K) rfl) (pv 2) (pe_int) (fun _ _ => rfl)) pa_nil)) pa_nil)) (by rfl))
    (pss_cons (ps_if (PW.pt (pw_or (pt_cmpR op_ltU (pv 4) (pe_callD h_number_of (hr.mono (by omega)) rfl (pa_cons (pv 0) pa_nil)) (nomark _)) (pw_or (pt_cmpR op_ltU (pe_callD h_number_of (hr.mono (by omega)) rfl (pa_cons (pv 1) pa_nil)) (pv 3) (nomark _)) (pw_or1 (pt_cmpR op_ltU (pe_callD h_number_of (hr.mono (by omega)) rfl (pa_cons (pv 1) pa_nil)) (pe_callD h_number_of (hr.mono (by omega)) rfl (pa_cons (pv 0) pa_nil)) (nomark _)))))) (pss_one (ps_ret (pe_tup (pa_cons (pe_str) (pa_cons (pe_tup (pa_cons (pe_int) (pa_cons (pe_non) pa_nil))) pa_nil))))) pss_nil)
    (pss_cons (ps_if (PW.pt (pw_and (pt_cmpR op_leU (pe_callD h_number_of (hr.mono (by omega)) rfl (pa_cons (pv 0) pa_nil)) (pv 3) (nomark _)) (pw_and1 (pt_cmpR op_leU (pv 4) (pe_callD h_number_of (hr.mono (by omega)) rfl (pa_cons (pv 1) pa_nil)) (nomark _))))) (pss_one (ps_ret (pe_tup (pa_cons (pe_str) (pa_cons (pe_tup (pa_cons (pe_ix (ix_K (K := K) rfl) (pv 2) (pe_int) (fun _ _ => rfl)) (pa_cons (pe_ix (ix_K (K := K) rfl) (pv 2) (pe_int) (fun _ _ => rfl)) pa_nil))) pa_nil))))) pss_nil)
    (pss_one (ps_ret (pe_non)))))), ?_⟩
  rintro ds d ⟨x, y, q, s, hx, hy, hs, rfl, rfl⟩
  have h1 := hs.lo
  have h2 := hs.hi
  unfold rangeTold
  refine xs_seq (xs_par (by walk_at "x")) ?_
  refine xs_ifs (by walk_at "x") (fun h => xs_seqr ?_) (fun h => xs_nseq ?_)
  · have h' : num s.hi < num x ∨ num y < num s.lo ∨ num y < num x := by simpa using h
    rw [if_pos h']
    walk_at "ret"
  · have h' : ¬ (num s.hi < num x ∨ num y < num s.lo ∨ num y < num x) := by simpa using h
    rw [if_neg h']
    refine xs_ifs (by walk_at "x") (fun g => xs_seqr ?_) (fun g => xs_nseq ?_)
    · have g' : num x ≤ num s.lo ∧ num s.hi ≤ num y := by simpa using g
      rw [if_pos g']
      walk_at "ret"
    · have g' : ¬ (num x ≤ num s.lo ∧ num s.hi ≤ num y) := by simpa using g
      rw [if_neg g']
      walk_at "ret"
abbrev s_rank_told : Stmt := top 44
theorem sc_rank_told : FnScope ["name", "summary"] ["name", "summary"] (defScope s_rank_told) := ⟨rfl, rfl, rfl, by decide +kernel, rfl, by decide +kernel, by decide +kernel⟩
theorem pr_rank_told (F : DefAt K mg "rank_told" s_rank_told) (T : Txt K mg C eRow) (h_number_of : Pr P w K mg base 1 "number_of" ["name"] (spD K Rnum)) : Pr P w K mg base 2 "rank_told" ["name", "summary"] (spD K RrankT) := by
  refine pr_mk F sc_rank_told (fun _ _ _ _ _ _ us hl => match us, hl with | [_, _], _ => rfl) (fun ds d ⟨x, q, s, _, _, e, _⟩ => by rw [e]; rfl) fun f cdv A outer s0 H E hr => ⟨_, (pss_cons (ps_if (pt_cmpR op_leU (pe_callD h_number_of (hr.mono (by omega)) rfl (pa_cons (pv 0) pa_nil)) (pe_callD h_number_of (hr.mono (by omega)) rfl (pa_cons (pe_ix (ix_K (K := K) rfl) (pv 1) (pe_int) (fun _ _ => rfl)) pa_nil)) (nomark _)) (pss_one (ps_ret (pe_tup (pa_cons (pe_str) (pa_cons (pe_int) pa_nil))))) pss_nil)
    (pss_cons (ps_if (pt_cmpR op_gtU (pe_callD h_number_of (hr.mono (by omega)) rfl (pa_cons (pv 0) pa_nil)) (pe_callD h_number_of (hr.mono (by omega)) rfl (pa_cons (pe_ix (ix_K (K := K) rfl) (pv 1) (pe_int) (fun _ _ => rfl)) pa_nil)) (nomark _)) (pss_one (ps_ret (pe_tup (pa_cons (pe_str) (pa_cons (pe_ix (ix_K (K := K) rfl) (pv 1) (pe_int) (fun _ _ => rfl)) pa_nil))))) pss_nil)
    (pss_one (ps_ret (pe_non))))), ?_⟩
  rintro ds d ⟨x, q, s, hx, hs, rfl, rfl⟩
  have h1 := hs.lo
  have h2 := hs.hi
  unfold rankTold
  refine xs_ifs (by walk_at "x") (fun h => xs_seqr ?_) (fun h => xs_nseq ?_)
  · rw [if_pos (of_decide_eq_true h)]
    walk_at "ret"
  · rw [if_neg (of_decide_eq_false h)]
    refine xs_ifs (by walk_at "x") (fun g => xs_seqr ?_) (fun g => xs_nseq ?_)
    · rw [if_pos (of_decide_eq_true g)]
      walk_at "ret"
    · rw [if_neg (of_decide_eq_false g)]
      walk_at "ret"
abbrev s_place_told : Stmt := top 45
theorem sc_place_told : FnScope ["wanted", "summary"] ["wanted", "summary"] (defScope s_place_told) := ⟨rfl, rfl, rfl, by decide +kernel, rfl, by decide +kernel, by decide +kernel⟩
theorem pr_place_told (F : DefAt K mg "place_told" s_place_told) (T : Txt K mg C eRow) : Pr P w K mg base 2 "place_told" ["wanted", "summary"] (spD K RplaceT) := by
  refine pr_mk F sc_place_told (fun _ _ _ _ _ _ us hl => match us, hl with | [_, _], _ => rfl) (fun ds d ⟨x, q, s, _, e, _⟩ => by rw [e]; rfl) fun f cdv A outer s0 H E hr => ⟨_, (pss_cons (ps_if (pt_cmpR op_ge (pv 0) (pe_ix (ix_K (K := K) rfl) (pv 1) (pe_int) (fun _ _ => rfl)) (nomark _)) (pss_one (ps_ret (pe_tup (pa_cons (pe_str) (pa_cons (pe_non) pa_nil))))) pss_nil)
    (pss_cons (ps_if (pt_cmpR op_eq (pv 0) (pe_int) (nomark _)) (pss_one (ps_ret (pe_tup (pa_cons (pe_str) (pa_cons (pe_ix (ix_K (K := K) rfl) (pv 1) (pe_int) (fun _ _ => rfl)) pa_nil))))) pss_nil)
    (pss_cons (ps_if (pt_cmpR op_eq (pv 0) (pe_op op_sub (pe_ix (ix_K (K := K) rfl) (pv 1) (pe_int) (fun _ _ => rfl)) (pe_int)) (nomark _)) (pss_one (ps_ret (pe_tup (pa_cons (pe_str) (pa_cons (pe_ix (ix_K (K := K) rfl) (pv 1) (pe_int) (fun _ _ => rfl)) pa_nil))))) pss_nil)
    (pss_one (ps_ret (pe_non)))))), ?_⟩
  rintro ds d ⟨n, q, s, hs, rfl, rfl⟩
  unfold placeTold
  refine xs_ifs (by walk_at "x") (fun h => xs_seqr ?_) (fun h => xs_nseq ?_)
  · rw [if_pos (of_decide_eq_true h)]
    walk_at "ret"
  · rw [if_neg (of_decide_eq_false h)]
    refine xs_ifs (by walk_at "x") (fun g => xs_seqr ?_) (fun g => xs_nseq ?_)
    · rw [if_pos (of_decide_eq_true g)]
      walk_at "ret"
    · rw [if_neg (of_decide_eq_false g)]
      refine xs_ifs (by walk_at "x") (fun g => xs_seqr ?_) (fun g => xs_nseq ?_)
      · rw [if_pos (of_decide_eq_true g)]
        walk_at "ret"
      · rw [if_neg (of_decide_eq_false g)]
        walk_at "ret"
abbrev s_next_told : Stmt := top 46
theorem sc_next_told : FnScope ["name", "summary"] ["name", "summary"] (defScope s_next_told) := ⟨rfl, rfl, rfl, by decide +kernel, rfl, by decide +kernel, by decide +kernel⟩
theorem pr_next_told (F : DefAt K mg "next_told" s_next_told) (T : Txt K mg C eRow) (h_number_of : Pr P w K mg base 1 "number_of" ["name"] (spD K Rnum)) : Pr P w K mg base 2 "next_told" ["name", "summary"] (spD K RnextT) := by
  refine pr_mk F sc_next_told (fun _ _ _ _ _ _ us hl => match us, hl with | [_, _], _ => rfl) (fun ds d ⟨x, q, s, _, _, e, _⟩ => by rw [e]; rfl) fun f cdv A outer s0 H E hr => ⟨_, (pss_cons (ps_if (pt_cmpR op_ltU (pe_callD h_number_of (hr.mono (by omega)) rfl (pa_cons (pv 0) pa_nil)) (pe_callD h_number_of (hr.mono (by omega)) rfl (pa_cons (pe_ix (ix_K (K := K) rfl) (pv 1) (pe_int) (fun _ _ => rfl)) pa_nil)) (nomark _)) (pss_one (ps_ret (pe_tup (pa_cons (pe_str) (pa_cons (pe_ix (ix_K (K := K) rfl) (pv 1) (pe_int) (fun _ _ => rfl)) pa_nil))))) pss_nil)
    (pss_cons (ps_if (pt_cmpR op_ge (pe_callD h_number_of (hr.mono (by omega)) rfl (pa_cons (pv 0) pa_nil)) (pe_callD h_number_of (hr.mono (by omega)) rfl (pa_cons (pe_ix (ix_K (K := K) rfl) (pv 1) (pe_int) (fun _ _ => rfl)) pa_nil)) (nomark _)) (pss_one (ps_ret (pe_tup (pa_cons (pe_str) (pa_cons (pe_non) pa_nil))))) pss_nil)
    (pss_one (ps_ret (pe_non))))), ?_⟩
  rintro ds d ⟨x, q, s, hx, hs, rfl, rfl⟩
  have h1 := hs.lo
  have h2 := hs.hi
  unfold nextTold
  refine xs_ifs (by walk_at "x") (fun h => xs_seqr ?_) (fun h => xs_nseq ?_)
  · rw [if_pos (of_decide_eq_true h)]
    walk_at "ret"
  · rw [if_neg (of_decide_eq_false h)]
    refine xs_ifs (by walk_at "x") (fun g => xs_seqr ?_) (fun g => xs_nseq ?_)
    · rw [if_pos (of_decide_eq_true g)]
      walk_at "ret"
    · rw [if_neg (of_decide_eq_false g)]
      walk_at "ret"
abbrev s_told : Stmt := top 47
theorem sc_told : FnScope ["question", "summary"] ["question", "summary"] (defScope s_told) := ⟨rfl, rfl, rfl, by decide +kernel, rfl, by decide +kernel, by decide +kernel⟩
theorem pr_told (F : DefAt K mg "told" s_told) (T : Txt K mg C eRow) (h_leaf_told : Pr P w K mg base 2 "leaf_told" ["name", "summary"] (spD K RleafT)) (h_range_told : Pr P w K mg base 2 "range_told" ["low", "high", "summary"] (spD K RrangeT)) (h_rank_told : Pr P w K mg base 2 "rank_told" ["name", "summary"] (spD K RrankT))
    (h_place_told : Pr P w K mg base 2 "place_told" ["wanted", "summary"] (spD K RplaceT)) (h_next_told : Pr P w K mg base 2 "next_told" ["name", "summary"] (spD K RnextT)) : Pr P w K mg base 3 "told" ["question", "summary"] (spD K Rtold) := by
  refine pr_mk F sc_told (fun _ _ _ _ _ _ us hl => match us, hl with | [_, _], _ => rfl) (fun ds d ⟨x, q, s, _, _, _, e, _⟩ => by rw [e]; rfl) fun f cdv A outer s0 H E hr => ⟨_, (pss_cons (ps_if (pt_cmpR op_eq (pe_ix (ix_K (K := K) rfl) (pv 0) (pe_int) (fun _ _ => rfl)) (pe_str) (nomark _)) (pss_one (ps_ret (pe_tup (pa_cons (pe_str) (pa_cons (pe_ix (ix_K (K := K) rfl) (pv 1) (pe_int) (fun _ _ => rfl)) pa_nil))))) pss_nil)
    (pss_cons (ps_if (pt_cmpR op_eq (pe_ix (ix_K (K := K) rfl) (pv 0) (pe_int) (fun _ _ => rfl)) (pe_str) (nomark _)) (pss_one (ps_ret (pe_tup (pa_cons (pe_str) (pa_cons (pe_ix (ix_K (K := K) rfl) (pv 1) (pe_int) (fun _ _ => rfl)) pa_nil))))) pss_nil)
    (pss_cons (ps_if (pt_cmpR op_eq (pe_ix (ix_K (K := K) rfl) (pv 0) (pe_int) (fun _ _ => rfl)) (pe_str) (nomark _)) (pss_one (ps_ret (pe_callD h_leaf_told (hr.mono (by omega)) rfl (pa_cons (pe_ix (ix_K (K := K) rfl) (pv 0) (pe_int) (fun _ _ => rfl)) (pa_cons (pv 1) pa_nil))))) pss_nil)
    (pss_cons (ps_if (pt_cmpR op_eq (pe_ix (ix_K (K := K) rfl) (pv 0) (pe_int) (fun _ _ => rfl)) (pe_str) (nomark _)) (pss_one (ps_ret (pe_callD h_range_told (hr.mono (by omega)) rfl (pa_cons (pe_ix (ix_K (K := K) rfl) (pv 0) (pe_int) (fun _ _ => rfl)) (pa_cons (pe_ix (ix_K (K := K) rfl) (pv 0) (pe_int) (fun _ _ => rfl)) (pa_cons (pv 1) pa_nil)))))) pss_nil)
    (pss_cons (ps_if (pt_cmpR op_eq (pe_ix (ix_K (K := K) rfl) (pv 0) (pe_int) (fun _ _ => rfl)) (pe_str) (nomark _)) (pss_one (ps_ret (pe_callD h_rank_told (hr.mono (by omega)) rfl (pa_cons (pe_ix (ix_K (K := K) rfl) (pv 0) (pe_int) (fun _ _ => rfl)) (pa_cons (pv 1) pa_nil))))) pss_nil)
    (pss_cons (ps_if (pt_cmpR op_eq (pe_ix (ix_K (K := K) rfl) (pv 0) (pe_int) (fun _ _ => rfl)) (pe_str) (nomark _)) (pss_one (ps_ret (pe_callD h_place_told (hr.mono (by omega)) rfl (pa_cons (pe_ix (ix_K (K := K) rfl) (pv 0) (pe_int) (fun _ _ => rfl)) (pa_cons (pv 1) pa_nil))))) pss_nil)
    (pss_one (ps_ret (pe_callD h_next_told (hr.mono (by omega)) rfl (pa_cons (pe_ix (ix_K (K := K) rfl) (pv 0) (pe_int) (fun _ _ => rfl)) (pa_cons (pv 1) pa_nil))))))))))), ?_⟩
  rintro ds d ⟨q, k, s, hq, hn, hs, rfl, rfl⟩
  cases q with
  | several l => exact hn.elim
  | count =>
    walk_at "if1"
    walk_at "ret"
  | total =>
    walk_at "if0"
    walk_at "if1"
    walk_at "ret"
  | leaf x =>
    have hx : Nm x := hq
    walk_at "if0"
    walk_at "if0"
    walk_at "if1"
    walk_at "ret"
  | range x y =>
    obtain ⟨hx, hy⟩ : Nm x ∧ Nm y := hq
    walk_at "if0"
    walk_at "if0"
    walk_at "if0"
    walk_at "if1"
    walk_at "ret"
  | rank x =>
    have hx : Nm x := hq
    walk_at "if0"
    walk_at "if0"
    walk_at "if0"
    walk_at "if0"
    walk_at "if1"
    walk_at "ret"
  | place n =>
    walk_at "if0"
    walk_at "if0"
    walk_at "if0"
    walk_at "if0"
    walk_at "if0"
    walk_at "if1"
    walk_at "ret"
  | next x =>
    have hx : Nm x := hq
    walk_at "if0"
    walk_at "if0"
    walk_at "if0"
    walk_at "if0"
    walk_at "if0"
    walk_at "if0"
    walk_at "ret"
end
end SG

namespace SG
open PySem L2
local macro_rules | `(tactic| walk_at "xR") => `(tactic| first
  | ((with_reducible show Rnum _ _); exact ⟨_, by assumption, rfl, rfl⟩)
  | ((with_reducible show Rbit _ _); exact ⟨_, _, by assumption, by first | assumption | decide | omega, rfl, rfl⟩)
  | ((with_reducible show Rpart _ _); exact ⟨_, _, by assumption, by assumption, rfl, rfl⟩)
  | ((with_reducible show Risn _ _); exact ⟨_, by assumption, rfl, rfl⟩)
  | ((with_reducible show Rleast _ _); exact ⟨_, _, by assumption, rfl, rfl⟩)
  | ((with_reducible show Rgreat _ _); exact ⟨_, _, by assumption, rfl, rfl⟩)
  | ((with_reducible show RlfRow _ _); exact ⟨_, _, by assumption, rfl, rfl⟩)
  | ((with_reducible show RsmNums _ _); exact ⟨_, _, by assumption, rfl, rfl⟩)
  | ((with_reducible show RbrRow _ _); exact ⟨_, _, _, by assumption, by assumption, rfl, rfl⟩)
  | ((with_reducible show RbrSm _ _ _); exact ⟨_, _, _, _, by assumption, by assumption, by assumption, rfl, rfl⟩)
  | ((with_reducible show Rworths _ _); exact ⟨_, by assumption, by assumption, rfl, rfl⟩)
  | ((with_reducible show Rnotes _ _); exact ⟨_, by assumption, by assumption, rfl, rfl⟩)
  | ((with_reducible show RisLeaf _ _); exact ⟨_, _, by assumption, rfl, rfl⟩)
  | ((with_reducible show RareSides _ _); exact ⟨_, _, _, by assumption, by assumption, rfl, rfl⟩)
  | ((with_reducible show RisIn _ _); exact ⟨_, _, _, _, by assumption, by assumption, rfl, rfl⟩)
  | ((with_reducible show Rsl _ _ _); exact ⟨_, _, by assumption, by first | assumption | omega, rfl, rfl⟩)
  | ((with_reducible show Rsumm _ _ _ _); exact ⟨_, _, _, by assumption, by assumption, by first | assumption | omega, rfl, rfl⟩)
  | ((with_reducible show Rtop _ _ _ _); exact ⟨_, _, _, by assumption, by assumption, rfl, rfl⟩)
  | ((with_reducible show Rroot _ _ _ _); exact ⟨_, _, _, by assumption, by assumption, rfl, rfl⟩)
  | ((with_reducible show Rkinds _ _ _); exact ⟨_, _, by assumption, by first | assumption | omega, rfl, rfl⟩)
  | ((with_reducible show Rvalid _ _ _ _); exact ⟨_, _, _, by assumption, by first | assumption | omega, rfl, rfl⟩)
  | ((with_reducible show Rorder _ _ _); exact ⟨_, _, by assumption, by first | assumption | omega, rfl, rfl⟩)
  | ((with_reducible show Rwf _ _ _ _); exact ⟨_, _, _, by assumption, rfl, rfl⟩)
  | ((with_reducible show RleafT _ _); exact ⟨_, _, _, by assumption, by assumption, rfl, rfl⟩)
  | ((with_reducible show RrangeT _ _); exact ⟨_, _, _, _, by assumption, by assumption, by assumption, rfl, rfl⟩)
  | ((with_reducible show RrankT _ _); exact ⟨_, _, _, by assumption, by assumption, rfl, rfl⟩)
  | ((with_reducible show RplaceT _ _); exact ⟨_, _, _, by assumption, rfl, rfl⟩)
  | ((with_reducible show RnextT _ _); exact ⟨_, _, _, by assumption, by assumption, rfl, rfl⟩)
  | ((with_reducible show Rtold _ _); exact ⟨_, _, _, by assumption, by assumption, by assumption, rfl, rfl⟩)
  | ((with_reducible show RsideQ _ _); exact ⟨_, _, _, _, by assumption, by assumption, by assumption, rfl, rfl⟩)
  | ((with_reducible show Rjoin _ _); exact ⟨_, _, _, _, _, by assumption, by assumption, by assumption, rfl, rfl⟩)
  | ((with_reducible show Rempty _ _); exact ⟨_, by assumption, rfl, rfl⟩)
  | ((with_reducible show Rask0 _ _ _ _); exact ⟨_, _, _, _, by assumption, by assumption, by assumption, by assumption, rfl, rfl⟩)
  | ((with_reducible show Rcell _ _); exact ⟨_, _, by assumption, by first | assumption | omega, rfl, rfl⟩)
  | ((with_reducible show Rname _ _); exact ⟨_, rfl, rfl⟩)
  | ((with_reducible show Rmod _ _); exact ⟨_, rfl, rfl⟩)
  | ((with_reducible show Rlsl _ _); exact ⟨_, _, by assumption, by first | assumption | omega, rfl, rfl⟩)
  | ((with_reducible show Rlrow _ _ _); exact ⟨_, _, _, by assumption, by assumption, by first | assumption | omega, rfl, rfl⟩)
  | ((with_reducible show Rlsum _ _ _); exact ⟨_, _, _, by assumption, by assumption, by first | assumption | omega, rfl, rfl⟩)
  | ((with_reducible show Rltop _ _ _); exact ⟨_, _, _, by assumption, by assumption, rfl, rfl⟩)
  | ((with_reducible show Rlroot _ _ _); exact ⟨_, _, _, by assumption, by assumption, rfl, rfl⟩)
  | ((with_reducible show Rbits _ _); exact ⟨_, by assumption, rfl, rfl⟩)
  | ((with_reducible show Rquest _ _); exact ⟨_, rfl, rfl⟩)
  | ((with_reducible show Rsums _ _); exact ⟨_, _, by assumption, by first | assumption | omega, rfl, rfl⟩)
  | skip)
local macro_rules | `(tactic| walk_at "sub") => `(tactic| repeat first | exact sub_nil | refine sub_none ?_ | refine sub_same ?_)
local macro_rules | `(tactic| walk_at "xl") => `(tactic| first | decide | (simp only [List.length_cons, List.length_nil, List.length_append, List.length_map]; omega) | skip)
local macro_rules | `(tactic| walk_at "xr") => `(tactic| first
  | with_reducible exact xr_addI | with_reducible exact xr_sub | with_reducible exact xr_eqS | with_reducible exact xr_eqI | with_reducible exact xr_isN | with_reducible exact xr_notN
  | with_reducible exact xr_ltI | with_reducible exact xr_leI | with_reducible exact xr_gtI | with_reducible exact xr_geI | with_reducible exact xr_neS | with_reducible exact xr_neI
  | with_reducible exact xr_ltS | with_reducible exact xr_leS | with_reducible exact xr_gtS | with_reducible exact xr_inC | with_reducible exact xr_xor
  | ((with_reducible apply xr_ixTi); (next => decide); (next => exact rfl))
  | ((with_reducible apply xr_ixLi); (next => decide); (next => exact rfl))
  | ((with_reducible apply xr_addT); walk_at "xl") | ((with_reducible apply xr_addL); walk_at "xl") | ((with_reducible apply xr_addS); walk_at "xl")
  | ((with_reducible apply xr_mulI); first | exact .inl ⟨by decide, by decide⟩ | exact .inr ⟨by decide, by decide⟩ | exact .inl ⟨by omega, by omega⟩ | exact .inr ⟨by omega, by omega⟩ | skip)
  | ((with_reducible apply xr_fdiv); first | exact ⟨by decide, by decide⟩ | exact ⟨by omega, by omega⟩ | skip) | ((with_reducible apply xr_mod); first | assumption | decide | omega | skip) | ((with_reducible apply xr_shr); first | decide | omega | skip)
  | skip)
local macro_rules | `(tactic| walk_at "xc") => `(tactic| first
  | with_reducible exact xc_lenT | with_reducible exact xc_lenL | with_reducible exact xc_lenQ | with_reducible exact xc_int | with_reducible exact xc_abs | with_reducible exact xc_listT | with_reducible exact xc_tupL
  | ((with_reducible apply xc_lenS); first | assumption | omega | skip) | with_reducible exact xc_sum | with_reducible exact xc_all | skip)
local macro_rules | `(tactic| walk_at "xe") => `(tactic| first
  | ((with_reducible apply xe_var); exact rfl) | with_reducible exact xe_int | with_reducible exact xe_str | with_reducible exact xe_non | with_reducible exact xe_bl
  | ((with_reducible apply xe_op) <;> walk_at "x") | ((with_reducible apply xe_tup) <;> walk_at "x") | ((with_reducible apply xe_cb) <;> walk_at "x")
  | ((with_reducible apply xe_call) <;> walk_at "x") | ((with_reducible apply xe_lst) <;> walk_at "x")
  | ((with_reducible apply xe_meth) <;> walk_at "x") | ((with_reducible apply xe_bits) <;> walk_at "x") | ((with_reducible apply xe_not) <;> walk_at "x")
  | ((with_reducible apply xe_and) <;> walk_at "x") | ((with_reducible apply xe_or) <;> walk_at "x") | ((with_reducible apply xe_chain) <;> walk_at "x")
  | ((with_reducible apply xe_slT) <;> walk_at "x") | ((with_reducible apply xe_fld) <;> walk_at "x") | skip)
local macro_rules | `(tactic| walk_at "x") => `(tactic| first
  | ((with_reducible show XE _ _ _ _); walk_at "xe") | ((with_reducible show XR _ _ _ _ _); walk_at "xr") | ((with_reducible show XC _ _ _ _); walk_at "xc")
  | with_reducible exact xa_nil | ((with_reducible apply xa_cons) <;> walk_at "x")
  | ((with_reducible apply xt_test) <;> walk_at "x") | ((with_reducible apply xt_B) <;> walk_at "x") | ((with_reducible apply xt_and) <;> walk_at "x") | ((with_reducible apply xt_or) <;> walk_at "x")
  | ((with_reducible apply xt_not) <;> walk_at "x") | with_reducible exact xt_yes
  | with_reducible exact xo_none | ((with_reducible apply xo_some) <;> walk_at "x")
  | ((with_reducible show List.length _ ≤ 100000); walk_at "xl") | ((with_reducible show (_ == _) = false); decide +kernel) | ((with_reducible show Cls _ _); assumption) | ((with_reducible show NoAttr _ _ _); assumption) | ((with_reducible intro _); walk_at "x") | walk_at "xR")
local macro_rules | `(tactic| walk_at "if0") => `(tactic| (refine xs_ifs (b := false) (XT.to (by walk_at "x") (by decide +kernel)) (fun h => (by cases h)) fun _ => xs_nseq ?_))
local macro_rules | `(tactic| walk_at "if1") => `(tactic| (refine xs_ifs (b := true) (XT.to (by walk_at "x") (by decide +kernel)) (fun _ => xs_seqr ?_) fun h => (by cases h)))
local macro_rules | `(tactic| walk_at "ret") => `(tactic| ((refine xs_ret' (by walk_at "x") ?_); (first | done | rfl | skip)))

section
variable {P : Program} {w : World} {K : PySem.W.Frag} {mg : Str → Option Value} {base : Heap} {C eRow : Addr} {k : Nat}
theorem ans_lf (p : Int) (l : Lf) (q : Qn) : ans p (.lf l) q = (toldQ q (summ p (.lf l))).getD (.lf l.ws l.ns) := by rw [ans]
theorem ans_told {p : Int} {t : T} {q : Qn} {d : An} (h : toldQ q (summ p t) = some d) : ans p t q = d := by
  cases t with
  | lf l =>
    rw [ans_lf, h]
    rfl
  | br a b =>
    show (toldQ q (summ p (.br a b))).getD _ = d
    rw [h]
    rfl
theorem ans_none_lf {p : Int} {l : Lf} {q : Qn} (h : toldQ q (summ p (.lf l)) = none) : ans p (.lf l) q = .lf l.ws l.ns := by
  rw [ans, h]
  rfl
theorem ans_leaf {p : Int} {a b : T} {x : Str} (h : toldQ (.leaf x) (summ p (.br a b)) = none) : ans p (.br a b) (.leaf x) = if num x ≤ num (summ p a).hi then ans p a (.leaf x) else ans p b (.leaf x) := by
  rw [ans, h]
  rfl
theorem ans_place {p : Int} {a b : T} {n : Int} (h : toldQ (.place n) (summ p (.br a b)) = none) : ans p (.br a b) (.place n) = if n < (summ p a).cnt then ans p a (.place n) else ans p b (.place (n - (summ p a).cnt)) := by
  rw [ans, h]
  rfl
theorem ans_next {p : Int} {a b : T} {x : Str} (h : toldQ (.next x) (summ p (.br a b)) = none) : ans p (.br a b) (.next x) = if num x < num (summ p a).hi then ans p a (.next x) else ans p b (.next x) := by
  rw [ans, h]
  rfl
theorem ans_range {p : Int} {a b : T} {x y : Str} (h : toldQ (.range x y) (summ p (.br a b)) = none) : ans p (.br a b) (.range x y) = joinA (ans p a (.range x y)) (ans p b (.range x y)) := by
  rw [ans, h]
  rfl
theorem ans_rank {p : Int} {a b : T} {x : Str} (h : toldQ (.rank x) (summ p (.br a b)) = none) : ans p (.br a b) (.rank x) = addA (ans p a (.rank x)) (ans p b (.rank x)) := by
  rw [ans, h]
  rfl
theorem range_form (p : Int) {q : Nat} (x y : Str) {t : T} (ht : TOk q t) : ∃ c o, ans p t (.range x y) = .rng c o ∧ RngOk q c o := by
  induction t with
  | lf l =>
    cases e : toldQ (.range x y) (summ p (.lf l)) with
    | some d =>
      rw [ans_told e]
      have e' : rangeTold x y (summ p (.lf l)) = some d := e
      unfold rangeTold at e'
      split at e'
      · cases e'
        exact ⟨0, none, rfl, fun h => absurd rfl h⟩
      · split at e'
        · cases e'
          exact ⟨_, _, rfl, fun _ => ⟨_, rfl, ht.lf.wl⟩⟩
        · cases e'
    | none =>
      have e' : rangeTold x y (summ p (.lf l)) = none := e
      unfold rangeTold at e'
      split at e'
      · cases e'
      · split at e'
        · cases e'
        · rename_i h1 h2
          have h1' : ¬ (num l.nm < num x ∨ num y < num l.nm ∨ num y < num x) := h1
          have h2' : ¬ (num x ≤ num l.nm ∧ num l.nm ≤ num y) := h2
          omega
  | br a b iha ihb =>
    cases e : toldQ (.range x y) (summ p (.br a b)) with
    | some d =>
      rw [ans_told e]
      have e' : rangeTold x y (summ p (.br a b)) = some d := e
      unfold rangeTold at e'
      split at e'
      · cases e'
        exact ⟨0, none, rfl, fun h => absurd rfl h⟩
      · split at e'
        · cases e'
          exact ⟨_, _, rfl, fun _ => ⟨_, rfl, summ_len p ht⟩⟩
        · cases e'
    | none =>
      rw [ans_range e]
      obtain ⟨c, o, e1, h1⟩ := iha ht.l
      obtain ⟨c', o', e2, h2⟩ := ihb ht.r
      rw [e1, e2]
      dsimp only [joinA]
      by_cases g1 : c = 0
      · rw [if_pos g1]
        exact ⟨_, _, rfl, h2⟩
      · rw [if_neg g1]
        by_cases g2 : c' = 0
        · rw [if_pos g2]
          exact ⟨_, _, rfl, h1⟩
        · rw [if_neg g2]
          obtain ⟨l, rfl, l1⟩ := h1 g1
          obtain ⟨l', rfl, l2⟩ := h2 g2
          refine ⟨_, _, rfl, fun _ => ⟨_, rfl, ?_⟩⟩
          show (List.zipWith (· + ·) l l').length = q
          rw [List.length_zipWith, l1, l2, Nat.min_self]
theorem rank_form (p : Int) (x : Str) (t : T) : ∃ i, ans p t (.rank x) = .int i := by
  induction t with
  | lf l =>
    cases e : toldQ (.rank x) (summ p (.lf l)) with
    | some d =>
      rw [ans_told e]
      have e' : rankTold x (summ p (.lf l)) = some d := e
      unfold rankTold at e'
      split at e'
      · cases e'
        exact ⟨_, rfl⟩
      · split at e'
        · cases e'
          exact ⟨_, rfl⟩
        · cases e'
    | none =>
      have e' : rankTold x (summ p (.lf l)) = none := e
      unfold rankTold at e'
      split at e'
      · cases e'
      · split at e'
        · cases e'
        · rename_i h1 h2
          have h1' : ¬ num x ≤ num l.nm := h1
          have h2' : ¬ num l.nm < num x := h2
          omega
  | br a b iha ihb =>
    cases e : toldQ (.rank x) (summ p (.br a b)) with
    | some d =>
      rw [ans_told e]
      have e' : rankTold x (summ p (.br a b)) = some d := e
      unfold rankTold at e'
      split at e'
      · cases e'
        exact ⟨_, rfl⟩
      · split at e'
        · cases e'
          exact ⟨_, rfl⟩
        · cases e'
    | none =>
      rw [ans_rank e]
      obtain ⟨i, e1⟩ := iha
      obtain ⟨j, e2⟩ := ihb
      rw [e1, e2]
      exact ⟨_, rfl⟩
abbrev s_side_questions : Stmt := top 48
theorem sc_side_questions : FnScope ["question", "left", "right"] ["question", "left", "right"] (defScope s_side_questions) := ⟨rfl, rfl, rfl, by decide +kernel, rfl, by decide +kernel, by decide +kernel⟩
theorem pr_side_questions (F : DefAt K mg "side_questions" s_side_questions) (T : Txt K mg C eRow) (h_number_of : Pr P w K mg base 1 "number_of" ["name"] (spD K Rnum)) : Pr P w K mg base 2 "side_questions" ["question", "left", "right"] (spD K RsideQ) := by
  refine pr_mk F sc_side_questions (fun _ _ _ _ _ _ us hl => match us, hl with | [_, _, _], _ => rfl) (fun ds d ⟨q, k, a, b, _, _, _, e, _⟩ => by rw [e]; rfl) fun f cdv A outer s0 H E hr => ⟨_, (pss_cons (ps_if (pt_cmpR op_eq (pe_ix (ix_K (K := K) rfl) (pv 0) (pe_int) (fun _ _ => rfl)) (pe_str) (nomark _)) (pss_cons (ps_if (pt_cmpR op_ltU (pe_ix (ix_K (K := K) rfl) (pv 0) (pe_int) (fun _ _ => rfl)) (pe_ix (ix_K (K := K) rfl) (pv 1) (pe_int) (fun _ _ => rfl)) (nomark _)) (pss_one (ps_ret (pe_tup (pa_cons (pv 0) (pa_cons (pe_non) pa_nil))))) pss_nil)
    (pss_one (ps_ret (pe_tup (pa_cons (pe_non) (pa_cons (pe_tup (pa_cons (pe_str) (pa_cons (pe_op op_sub (pe_ix (ix_K (K := K) rfl) (pv 0) (pe_int) (fun _ _ => rfl)) (pe_ix (ix_K (K := K) rfl) (pv 1) (pe_int) (fun _ _ => rfl))) pa_nil))) pa_nil)))))) pss_nil)
    (pss_cons (ps_if (pt_cmpR op_eq (pe_ix (ix_K (K := K) rfl) (pv 0) (pe_int) (fun _ _ => rfl)) (pe_str) (nomark _)) (pss_cons (ps_if (pt_cmpR op_ltU (pe_callD h_number_of (hr.mono (by omega)) rfl (pa_cons (pe_ix (ix_K (K := K) rfl) (pv 0) (pe_int) (fun _ _ => rfl)) pa_nil)) (pe_callD h_number_of (hr.mono (by omega)) rfl (pa_cons (pe_ix (ix_K (K := K) rfl) (pv 1) (pe_int) (fun _ _ => rfl)) pa_nil)) (nomark _)) (pss_one (ps_ret (pe_tup (pa_cons (pv 0) (pa_cons (pe_non) pa_nil))))) pss_nil)
    (pss_one (ps_ret (pe_tup (pa_cons (pe_non) (pa_cons (pv 0) pa_nil)))))) pss_nil)
    (pss_cons (ps_if (pt_cmpR op_eq (pe_ix (ix_K (K := K) rfl) (pv 0) (pe_int) (fun _ _ => rfl)) (pe_str) (nomark _)) (pss_cons (ps_if (pt_cmpR op_leU (pe_callD h_number_of (hr.mono (by omega)) rfl (pa_cons (pe_ix (ix_K (K := K) rfl) (pv 0) (pe_int) (fun _ _ => rfl)) pa_nil)) (pe_callD h_number_of (hr.mono (by omega)) rfl (pa_cons (pe_ix (ix_K (K := K) rfl) (pv 1) (pe_int) (fun _ _ => rfl)) pa_nil)) (nomark _)) (pss_one (ps_ret (pe_tup (pa_cons (pv 0) (pa_cons (pe_non) pa_nil))))) pss_nil)
    (pss_one (ps_ret (pe_tup (pa_cons (pe_non) (pa_cons (pv 0) pa_nil)))))) pss_nil)
    (pss_one (ps_ret (pe_tup (pa_cons (pv 0) (pa_cons (pv 0) pa_nil)))))))), ?_⟩
  rintro ds d ⟨q, k, a, b, hq, hn, ha, rfl, rfl⟩
  have h2 := ha.hi
  cases q with
  | several l => exact hn.elim
  | place n =>
    dsimp only [sideQ]
    walk_at "if1"
    refine xs_ifs (by walk_at "x") (fun h => xs_seqr ?_) (fun h => xs_nseq ?_)
    · rw [if_pos (of_decide_eq_true h)]
      walk_at "ret"
    · rw [if_neg (of_decide_eq_false h)]
      walk_at "ret"
  | next x =>
    have hx : Nm x := hq
    dsimp only [sideQ]
    walk_at "if0"
    walk_at "if1"
    refine xs_ifs (by walk_at "x") (fun h => xs_seqr ?_) (fun h => xs_nseq ?_)
    · rw [if_pos (of_decide_eq_true h)]
      walk_at "ret"
    · rw [if_neg (of_decide_eq_false h)]
      walk_at "ret"
  | leaf x =>
    have hx : Nm x := hq
    dsimp only [sideQ]
    walk_at "if0"
    walk_at "if0"
    walk_at "if1"
    refine xs_ifs (by walk_at "x") (fun h => xs_seqr ?_) (fun h => xs_nseq ?_)
    · rw [if_pos (of_decide_eq_true h)]
      walk_at "ret"
    · rw [if_neg (of_decide_eq_false h)]
      walk_at "ret"
  | count =>
    walk_at "if0"
    walk_at "if0"
    walk_at "if0"
    walk_at "ret"
  | total =>
    walk_at "if0"
    walk_at "if0"
    walk_at "if0"
    walk_at "ret"
  | range x y =>
    walk_at "if0"
    walk_at "if0"
    walk_at "if0"
    walk_at "ret"
  | rank x =>
    walk_at "if0"
    walk_at "if0"
    walk_at "if0"
    walk_at "ret"
abbrev s_joined_ranges : Stmt := top 49
theorem sc_joined_ranges : FnScope ["one", "other", "first", "second"] ["one", "other"] (defScope s_joined_ranges) := ⟨rfl, rfl, rfl, by decide +kernel, rfl, by decide +kernel, by decide +kernel⟩
theorem pr_joined_ranges (F : DefAt K mg "joined_ranges" s_joined_ranges) (T : Txt K mg C eRow) : Pr P w K mg base 1 "joined_ranges" ["one", "other"] (spD K Rjoin) := by
  refine pr_mk F sc_joined_ranges (fun _ _ _ _ _ _ us hl => match us, hl with | [_, _], _ => rfl) (fun ds d ⟨q, c, o, c', o', _, _, _, e, _⟩ => by rw [e]; rfl) fun f cdv A outer s0 H E hr => ⟨_, (pss_cons (ps_if (pt_cmpR op_eq (pe_ix (ix_K (K := K) rfl) (pv 0) (pe_int) (fun _ _ => rfl)) (pe_int) (nomark _)) (pss_one (ps_ret (pv 1))) pss_nil)
    (pss_cons (ps_if (pt_cmpR op_eq (pe_ix (ix_K (K := K) rfl) (pv 1) (pe_int) (fun _ _ => rfl)) (pe_int) (nomark _)) (pss_one (ps_ret (pv 0))) pss_nil)
    (pss_one (ps_ret (pe_tup (pa_cons (pe_op (op_addK (K := K) rfl) (pe_ix (ix_K (K := K) rfl) (pv 0) (pe_int) (fun _ _ => rfl)) (pe_ix (ix_K (K := K) rfl) (pv 1) (pe_int) (fun _ _ => rfl))) (pa_cons (pe_callTy (call_tupK (K := K) rfl) (by rfl) T.tuple (by decide +kernel) (pa_cons (pe_lc (own := [("first", 2), ("second", 3)]) rfl sc_joined_ranges.nd (pi_zipK (K := K) rfl rfl T.zip (pa_cons (pe_ix (ix_K (K := K) rfl) (pv 0) (pe_int) (fun _ _ => rfl)) (pa_cons (pe_ix (ix_K (K := K) rfl) (pv 1) (pe_int) (fun _ _ => rfl)) pa_nil))) (blkOk_by (by kernel_rfl)) (fun _ _ _ _ _ => (pg_tupK (K := K) (n := 2) rfl (pg_tup rfl (pgs_cons (pg_name (i := 2) sc_joined_ranges.nd rfl (by first | exact .inl rfl | exact .inr rfl)) (pgs_cons (pg_name (i := 3) sc_joined_ranges.nd rfl (by first | exact .inl rfl | exact .inr rfl)) pgs_nil))))) (fun _ _ _ _ _ => pts_nil) (fun _ _ _ _ _ => (pe_op (op_addK (K := K) rfl) (pv 2) (pv 3)))) pa_nil)) pa_nil))))))), ?_⟩
  rintro ds d ⟨q, c, o, c', o', h1, h2, h3, rfl, rfl⟩
  dsimp only [encA]
  dsimp only [joinA]
  refine xs_ifs (by walk_at "x") (fun h => xs_seqr ?_) (fun h => xs_nseq ?_)
  · rw [if_pos (of_decide_eq_true h)]
    walk_at "ret"
  · rw [if_neg (of_decide_eq_false h)]
    refine xs_ifs (by walk_at "x") (fun g => xs_seqr ?_) (fun g => xs_nseq ?_)
    · rw [if_pos (of_decide_eq_true g)]
      walk_at "ret"
    · rw [if_neg (of_decide_eq_false g)]
      obtain ⟨l, rfl, l1⟩ := h1 (of_decide_eq_false h)
      obtain ⟨l', rfl, l2⟩ := h2 (of_decide_eq_false g)
      dsimp only [encR]
      have hl : (l.map D.int).length = (l'.map D.int).length := by rw [List.length_map, List.length_map, l1, l2]
      have hz : (List.zipWith (fun a b => D.tup [a, b]) (l.map .int) (l'.map .int)).length ≤ 100000 := by
        rw [List.length_zipWith, List.length_map, List.length_map, l1, l2]
        omega
      refine xs_ret' (xe_tup (xa_cons (by walk_at "x") (xa_cons (xe_cb (xa_cons (xe_lc2 ((List.zipWith (· + ·) l l').map .int) zip_len (xi_zipT (by walk_at "x") hl) hz fun m d y q1 q2 => ?_) xa_nil) xc_tupL) xa_nil)) (by show 2 ≤ 100000; decide)) ?_
      · obtain ⟨i, j, rfl, rfl⟩ := zip_at q1 q2
        exact ⟨_, _, rfl, by walk_at "x"⟩
      · rfl
end
end SG

namespace SG
open PySem L2
local macro_rules | `(tactic| walk_at "xR") => `(tactic| first
  | ((with_reducible show Rnum _ _); exact ⟨_, by assumption, rfl, rfl⟩)
  | ((with_reducible show Rbit _ _); exact ⟨_, _, by assumption, by first | assumption | decide | omega, rfl, rfl⟩)
  | ((with_reducible show Rpart _ _); exact ⟨_, _, by assumption, by assumption, rfl, rfl⟩)
  | ((with_reducible show Risn _ _); exact ⟨_, by assumption, rfl, rfl⟩)
  | ((with_reducible show Rleast _ _); exact ⟨_, _, by assumption, rfl, rfl⟩)
  | ((with_reducible show Rgreat _ _); exact ⟨_, _, by assumption, rfl, rfl⟩)
  | ((with_reducible show RlfRow _ _); exact ⟨_, _, by assumption, rfl, rfl⟩)
  | ((with_reducible show RsmNums _ _); exact ⟨_, _, by assumption, rfl, rfl⟩)
  | ((with_reducible show RbrRow _ _); exact ⟨_, _, _, by assumption, by assumption, rfl, rfl⟩)
  | ((with_reducible show RbrSm _ _ _); exact ⟨_, _, _, _, by assumption, by assumption, by assumption, rfl, rfl⟩)
  | ((with_reducible show Rworths _ _); exact ⟨_, by assumption, by assumption, rfl, rfl⟩)
  | ((with_reducible show Rnotes _ _); exact ⟨_, by assumption, by assumption, rfl, rfl⟩)
  | ((with_reducible show RisLeaf _ _); exact ⟨_, _, by assumption, rfl, rfl⟩)
  | ((with_reducible show RareSides _ _); exact ⟨_, _, _, by assumption, by assumption, rfl, rfl⟩)
  | ((with_reducible show RisIn _ _); exact ⟨_, _, _, _, by assumption, by assumption, rfl, rfl⟩)
  | ((with_reducible show Rsl _ _ _); exact ⟨_, _, by assumption, by first | assumption | omega, rfl, rfl⟩)
  | ((with_reducible show Rsumm _ _ _ _); exact ⟨_, _, _, by assumption, by assumption, by first | assumption | omega, rfl, rfl⟩)
  | ((with_reducible show Rtop _ _ _ _); exact ⟨_, _, _, by assumption, by assumption, rfl, rfl⟩)
  | ((with_reducible show Rroot _ _ _ _); exact ⟨_, _, _, by assumption, by assumption, rfl, rfl⟩)
  | ((with_reducible show Rkinds _ _ _); exact ⟨_, _, by assumption, by first | assumption | omega, rfl, rfl⟩)
  | ((with_reducible show Rvalid _ _ _ _); exact ⟨_, _, _, by assumption, by first | assumption | omega, rfl, rfl⟩)
  | ((with_reducible show Rorder _ _ _); exact ⟨_, _, by assumption, by first | assumption | omega, rfl, rfl⟩)
  | ((with_reducible show Rwf _ _ _ _); exact ⟨_, _, _, by assumption, rfl, rfl⟩)
  | ((with_reducible show RleafT _ _); exact ⟨_, _, _, by assumption, by assumption, rfl, rfl⟩)
  | ((with_reducible show RrangeT _ _); exact ⟨_, _, _, _, by assumption, by assumption, by assumption, rfl, rfl⟩)
  | ((with_reducible show RrankT _ _); exact ⟨_, _, _, by assumption, by assumption, rfl, rfl⟩)
  | ((with_reducible show RplaceT _ _); exact ⟨_, _, _, by assumption, rfl, rfl⟩)
  | ((with_reducible show RnextT _ _); exact ⟨_, _, _, by assumption, by assumption, rfl, rfl⟩)
  | ((with_reducible show Rtold _ _); exact ⟨_, _, _, by assumption, by assumption, by assumption, rfl, rfl⟩)
  | ((with_reducible show RsideQ _ _); exact ⟨_, _, _, _, by assumption, by assumption, by assumption, rfl, rfl⟩)
  | ((with_reducible show Rjoin _ _); exact ⟨_, _, _, _, _, by assumption, by assumption, by assumption, rfl, rfl⟩)
  | ((with_reducible show Rempty _ _); exact ⟨_, by assumption, rfl, rfl⟩)
  | ((with_reducible show Rask0 _ _ _ _); exact ⟨_, _, _, _, by assumption, by assumption, by assumption, by assumption, rfl, rfl⟩)
  | ((with_reducible show Rcell _ _); exact ⟨_, _, by assumption, by first | assumption | omega, rfl, rfl⟩)
  | ((with_reducible show Rname _ _); exact ⟨_, rfl, rfl⟩)
  | ((with_reducible show Rmod _ _); exact ⟨_, rfl, rfl⟩)
  | ((with_reducible show Rlsl _ _); exact ⟨_, _, by assumption, by first | assumption | omega, rfl, rfl⟩)
  | ((with_reducible show Rlrow _ _ _); exact ⟨_, _, _, by assumption, by assumption, by first | assumption | omega, rfl, rfl⟩)
  | ((with_reducible show Rlsum _ _ _); exact ⟨_, _, _, by assumption, by assumption, by first | assumption | omega, rfl, rfl⟩)
  | ((with_reducible show Rltop _ _ _); exact ⟨_, _, _, by assumption, by assumption, rfl, rfl⟩)
  | ((with_reducible show Rlroot _ _ _); exact ⟨_, _, _, by assumption, by assumption, rfl, rfl⟩)
  | ((with_reducible show Rbits _ _); exact ⟨_, by assumption, rfl, rfl⟩)
  | ((with_reducible show Rquest _ _); exact ⟨_, rfl, rfl⟩)
  | ((with_reducible show Rsums _ _); exact ⟨_, _, by assumption, by first | assumption | omega, rfl, rfl⟩)
  | skip)
local macro_rules | `(tactic| walk_at "sub") => `(tactic| repeat first | exact sub_nil | refine sub_none ?_ | refine sub_same ?_)
local macro_rules | `(tactic| walk_at "xl") => `(tactic| first | decide | (simp only [List.length_cons, List.length_nil, List.length_append, List.length_map]; omega) | skip)
local macro_rules | `(tactic| walk_at "xr") => `(tactic| first
  | with_reducible exact xr_addI | with_reducible exact xr_sub | with_reducible exact xr_eqS | with_reducible exact xr_eqI | with_reducible exact xr_isN | with_reducible exact xr_notN
  | with_reducible exact xr_ltI | with_reducible exact xr_leI | with_reducible exact xr_gtI | with_reducible exact xr_geI | with_reducible exact xr_neS | with_reducible exact xr_neI
  | with_reducible exact xr_ltS | with_reducible exact xr_leS | with_reducible exact xr_gtS | with_reducible exact xr_inC | with_reducible exact xr_xor
  | ((with_reducible apply xr_ixTi); (next => decide); (next => exact rfl))
  | ((with_reducible apply xr_ixLi); (next => decide); (next => exact rfl))
  | ((with_reducible apply xr_addT); walk_at "xl") | ((with_reducible apply xr_addL); walk_at "xl") | ((with_reducible apply xr_addS); walk_at "xl")
  | ((with_reducible apply xr_mulI); first | exact .inl ⟨by decide, by decide⟩ | exact .inr ⟨by decide, by decide⟩ | exact .inl ⟨by omega, by omega⟩ | exact .inr ⟨by omega, by omega⟩ | skip)
  | ((with_reducible apply xr_fdiv); first | exact ⟨by decide, by decide⟩ | exact ⟨by omega, by omega⟩ | skip) | ((with_reducible apply xr_mod); first | assumption | decide | omega | skip) | ((with_reducible apply xr_shr); first | decide | omega | skip)
  | skip)
local macro_rules | `(tactic| walk_at "xc") => `(tactic| first
  | with_reducible exact xc_lenT | with_reducible exact xc_lenL | with_reducible exact xc_lenQ | with_reducible exact xc_int | with_reducible exact xc_abs | with_reducible exact xc_listT | with_reducible exact xc_tupL
  | ((with_reducible apply xc_lenS); first | assumption | omega | skip) | with_reducible exact xc_sum | with_reducible exact xc_all | skip)
local macro_rules | `(tactic| walk_at "xe") => `(tactic| first
  | ((with_reducible apply xe_var); exact rfl) | with_reducible exact xe_int | with_reducible exact xe_str | with_reducible exact xe_non | with_reducible exact xe_bl
  | ((with_reducible apply xe_op) <;> walk_at "x") | ((with_reducible apply xe_tup) <;> walk_at "x") | ((with_reducible apply xe_cb) <;> walk_at "x")
  | ((with_reducible apply xe_call) <;> walk_at "x") | ((with_reducible apply xe_lst) <;> walk_at "x")
  | ((with_reducible apply xe_meth) <;> walk_at "x") | ((with_reducible apply xe_bits) <;> walk_at "x") | ((with_reducible apply xe_not) <;> walk_at "x")
  | ((with_reducible apply xe_and) <;> walk_at "x") | ((with_reducible apply xe_or) <;> walk_at "x") | ((with_reducible apply xe_chain) <;> walk_at "x")
  | ((with_reducible apply xe_slT) <;> walk_at "x") | ((with_reducible apply xe_fld) <;> walk_at "x") | skip)
local macro_rules | `(tactic| walk_at "x") => `(tactic| first
  | ((with_reducible show XE _ _ _ _); walk_at "xe") | ((with_reducible show XR _ _ _ _ _); walk_at "xr") | ((with_reducible show XC _ _ _ _); walk_at "xc")
  | with_reducible exact xa_nil | ((with_reducible apply xa_cons) <;> walk_at "x")
  | ((with_reducible apply xt_test) <;> walk_at "x") | ((with_reducible apply xt_B) <;> walk_at "x") | ((with_reducible apply xt_and) <;> walk_at "x") | ((with_reducible apply xt_or) <;> walk_at "x")
  | ((with_reducible apply xt_not) <;> walk_at "x") | with_reducible exact xt_yes
  | with_reducible exact xo_none | ((with_reducible apply xo_some) <;> walk_at "x")
  | ((with_reducible show List.length _ ≤ 100000); walk_at "xl") | ((with_reducible show (_ == _) = false); decide +kernel) | ((with_reducible show Cls _ _); assumption) | ((with_reducible show NoAttr _ _ _); assumption) | ((with_reducible intro _); walk_at "x") | walk_at "xR")
local macro_rules | `(tactic| walk_at "if0") => `(tactic| (refine xs_ifs (b := false) (XT.to (by walk_at "x") (by decide +kernel)) (fun h => (by cases h)) fun _ => xs_nseq ?_))
local macro_rules | `(tactic| walk_at "if1") => `(tactic| (refine xs_ifs (b := true) (XT.to (by walk_at "x") (by decide +kernel)) (fun _ => xs_seqr ?_) fun h => (by cases h)))
local macro_rules | `(tactic| walk_at "ret") => `(tactic| ((refine xs_ret' (by walk_at "x") ?_); (first | done | rfl | skip)))

section
variable {P : Program} {w : World} {K : PySem.W.Frag} {mg : Str → Option Value} {base : Heap} {C eRow : Addr} {k : Nat}
abbrev s_branch_answer : Stmt := top 51
theorem sc_branch_answer : FnScope ["sealer", "tree", "question", "sides", "one", "other"] ["sealer", "tree", "question"] (defScope s_branch_answer) := ⟨rfl, rfl, rfl, by decide +kernel, rfl, by decide +kernel, by decide +kernel⟩
abbrev s_part_answer : Stmt := top 50
theorem sc_part_answer : FnScope ["sealer", "tree", "question", "found"] ["sealer", "tree", "question"] (defScope s_part_answer) := ⟨rfl, rfl, rfl, by decide +kernel, rfl, by decide +kernel, by decide +kernel⟩
/-- once the part's answers at a depth are known, a branch's are -/
theorem pr_branch_answer (F : DefAt K mg "branch_answer" s_branch_answer) (T : Txt K mg C eRow) {n m : Nat} (hnm : n ≤ 20) (h_part_answer : Pr P w K mg base (26 + m) "part_answer" ["sealer", "tree", "question"] (spD K (Rpa C n))) (h_summary_of : Pr P w K mg base 24 "summary_of" ["sealer", "tree"] (spD K (Rsumm C 20)))
    (h_side_questions : Pr P w K mg base 2 "side_questions" ["question", "left", "right"] (spD K RsideQ)) (h_joined_ranges : Pr P w K mg base 1 "joined_ranges" ["one", "other"] (spD K Rjoin)) : Pr P w K mg base (27 + m) "branch_answer" ["sealer", "tree", "question"] (spD K (Rba C n)) := by
  have e5 : 27 + m = (26 + m) + 1 := by omega
  rw [e5]
  refine pr_mk F sc_branch_answer (fun _ _ _ _ _ _ us hl => match us, hl with | [_, _, _], _ => rfl) (fun ds d ⟨p, k, a, b, q, _, _, _, _, _, _, _, _, e, _⟩ => by rw [e]; rfl) fun f cdv A outer s0 H E hr => ⟨_, (pss_cons (ps_set (i := 3) sc_branch_answer.nd rfl (by first | exact .inl rfl | exact .inr rfl) (pe_callD h_side_questions (hr.mono (by omega)) rfl (pa_cons (pv 2) (pa_cons (pe_callD h_summary_of (hr.mono (by omega)) rfl (pa_cons (pv 0) (pa_cons (pe_ix (ix_K (K := K) rfl) (pv 1) (pe_int) (fun _ _ => rfl)) pa_nil))) (pa_cons (pe_callD h_summary_of (hr.mono (by omega)) rfl (pa_cons (pv 0) (pa_cons (pe_ix (ix_K (K := K) rfl) (pv 1) (pe_int) (fun _ _ => rfl)) pa_nil))) pa_nil)))))
    (pss_cons (ps_if (pt_cmpR op_isN (pe_ix (ix_K (K := K) rfl) (pv 3) (pe_int) (fun _ _ => rfl)) pe_non (nomark _)) (pss_one (ps_ret (pe_callD h_part_answer (hr.mono (by omega)) rfl (pa_cons (pv 0) (pa_cons (pe_ix (ix_K (K := K) rfl) (pv 1) (pe_int) (fun _ _ => rfl)) (pa_cons (pe_ix (ix_K (K := K) rfl) (pv 3) (pe_int) (fun _ _ => rfl)) pa_nil)))))) pss_nil)
    (pss_cons (ps_if (pt_cmpR op_isN (pe_ix (ix_K (K := K) rfl) (pv 3) (pe_int) (fun _ _ => rfl)) pe_non (nomark _)) (pss_one (ps_ret (pe_callD h_part_answer (hr.mono (by omega)) rfl (pa_cons (pv 0) (pa_cons (pe_ix (ix_K (K := K) rfl) (pv 1) (pe_int) (fun _ _ => rfl)) (pa_cons (pe_ix (ix_K (K := K) rfl) (pv 3) (pe_int) (fun _ _ => rfl)) pa_nil)))))) pss_nil)
    (pss_cons (ps_set (i := 4) sc_branch_answer.nd rfl (by first | exact .inl rfl | exact .inr rfl) (pe_callD h_part_answer (hr.mono (by omega)) rfl (pa_cons (pv 0) (pa_cons (pe_ix (ix_K (K := K) rfl) (pv 1) (pe_int) (fun _ _ => rfl)) (pa_cons (pe_ix (ix_K (K := K) rfl) (pv 3) (pe_int) (fun _ _ => rfl)) pa_nil)))))
    (pss_cons (ps_set (i := 5) sc_branch_answer.nd rfl (by first | exact .inl rfl | exact .inr rfl) (pe_callD h_part_answer (hr.mono (by omega)) rfl (pa_cons (pv 0) (pa_cons (pe_ix (ix_K (K := K) rfl) (pv 1) (pe_int) (fun _ _ => rfl)) (pa_cons (pe_ix (ix_K (K := K) rfl) (pv 3) (pe_int) (fun _ _ => rfl)) pa_nil)))))
    (pss_cons (ps_if (pt_cmpR op_eq (pe_ix (ix_K (K := K) rfl) (pv 2) (pe_int) (fun _ _ => rfl)) (pe_str) (nomark _)) (pss_one (ps_ret (pe_callD h_joined_ranges (hr.mono (by omega)) rfl (pa_cons (pv 4) (pa_cons (pv 5) pa_nil))))) pss_nil)
    (pss_one (ps_ret (pe_op (op_addK (K := K) rfl) (pv 4) (pv 5)))))))))), ?_⟩
  rintro ds d ⟨p, k, a, b, q, hp, ha, hb, da, db, hq, hn, ht, rfl, rfl⟩
  dsimp only [encT]
  have sa := summ_ok p ha
  have sb := summ_ok p hb
  have da2 : a.dep ≤ 20 := Nat.le_trans da hnm
  have db2 : b.dep ≤ 20 := Nat.le_trans db hnm
  refine xs_seq (xs_set (by walk_at "x")) ?_
  cases q with
  | several l => exact hn.elim
  | count => cases ht
  | total => cases ht
  | place i =>
    rw [ans_place ht]
    by_cases c : i < (summ p a).cnt
    · rw [if_pos c]
      have e1 : sideQ (.place i) (summ p a) = (some (.place i), none) := by dsimp only [sideQ]; rw [if_pos c]
      rw [e1]
      dsimp only [encOQ]
      refine xs_ifs (b := D.isN .non) (by walk_at "x") (fun _ => xs_seqr ?_) (fun h => absurd h (by decide))
      refine xs_ret (xe_call (by walk_at "x") ⟨p, k, a, .place i, hp, ha, da, hq, hn, rfl, rfl⟩)
    · rw [if_neg c]
      have e1 : sideQ (.place i) (summ p a) = (none, some (.place (i - (summ p a).cnt))) := by dsimp only [sideQ]; rw [if_neg c]
      rw [e1]
      dsimp only [encOQ]
      have hi : 0 ≤ i := hq
      have hq' : QnOk (.place (i - (summ p a).cnt)) := by
        show 0 ≤ i - (summ p a).cnt
        omega
      have hn' : NotSev (.place (i - (summ p a).cnt)) := trivial
      refine xs_ifs (b := D.isN (encQ (.place (i - (summ p a).cnt)))) (by walk_at "x") (fun h => by cases h) (fun _ => xs_nseq ?_)
      refine xs_ifs (b := D.isN .non) (by walk_at "x") (fun _ => xs_seqr ?_) (fun h => absurd h (by decide))
      refine xs_ret (xe_call (by walk_at "x") ⟨p, k, b, .place (i - (summ p a).cnt), hp, hb, db, hq', hn', rfl, rfl⟩)
  | next x =>
    rw [ans_next ht]
    by_cases c : num x < num (summ p a).hi
    · rw [if_pos c]
      have e1 : sideQ (.next x) (summ p a) = (some (.next x), none) := by dsimp only [sideQ]; rw [if_pos c]
      rw [e1]
      dsimp only [encOQ]
      refine xs_ifs (b := D.isN .non) (by walk_at "x") (fun _ => xs_seqr ?_) (fun h => absurd h (by decide))
      refine xs_ret (xe_call (by walk_at "x") ⟨p, k, a, .next x, hp, ha, da, hq, hn, rfl, rfl⟩)
    · rw [if_neg c]
      have e1 : sideQ (.next x) (summ p a) = (none, some (.next x)) := by dsimp only [sideQ]; rw [if_neg c]
      rw [e1]
      dsimp only [encOQ]
      refine xs_ifs (b := D.isN (encQ (.next x))) (by walk_at "x") (fun h => by cases h) (fun _ => xs_nseq ?_)
      refine xs_ifs (b := D.isN .non) (by walk_at "x") (fun _ => xs_seqr ?_) (fun h => absurd h (by decide))
      refine xs_ret (xe_call (by walk_at "x") ⟨p, k, b, .next x, hp, hb, db, hq, hn, rfl, rfl⟩)
  | leaf x =>
    rw [ans_leaf ht]
    by_cases c : num x ≤ num (summ p a).hi
    · rw [if_pos c]
      have e1 : sideQ (.leaf x) (summ p a) = (some (.leaf x), none) := by dsimp only [sideQ]; rw [if_pos c]
      rw [e1]
      dsimp only [encOQ]
      refine xs_ifs (b := D.isN .non) (by walk_at "x") (fun _ => xs_seqr ?_) (fun h => absurd h (by decide))
      refine xs_ret (xe_call (by walk_at "x") ⟨p, k, a, .leaf x, hp, ha, da, hq, hn, rfl, rfl⟩)
    · rw [if_neg c]
      have e1 : sideQ (.leaf x) (summ p a) = (none, some (.leaf x)) := by dsimp only [sideQ]; rw [if_neg c]
      rw [e1]
      dsimp only [encOQ]
      refine xs_ifs (b := D.isN (encQ (.leaf x))) (by walk_at "x") (fun h => by cases h) (fun _ => xs_nseq ?_)
      refine xs_ifs (b := D.isN .non) (by walk_at "x") (fun _ => xs_seqr ?_) (fun h => absurd h (by decide))
      refine xs_ret (xe_call (by walk_at "x") ⟨p, k, b, .leaf x, hp, hb, db, hq, hn, rfl, rfl⟩)
  | range x y =>
    rw [ans_range ht]
    dsimp only [sideQ, encOQ]
    obtain ⟨c, o, e1, h1⟩ := range_form p x y ha
    obtain ⟨c', o', e2, h2⟩ := range_form p x y hb
    have h3 := ha.q13.2
    refine xs_ifs (b := D.isN (encQ (.range x y))) (by walk_at "x") (fun h => by cases h) (fun _ => xs_nseq ?_)
    refine xs_ifs (b := D.isN (encQ (.range x y))) (by walk_at "x") (fun h => by cases h) (fun _ => xs_nseq ?_)
    refine xs_seq (xs_set (xe_call (by walk_at "x") ⟨p, k, a, .range x y, hp, ha, da, hq, hn, rfl, rfl⟩)) ?_
    refine xs_seq (xs_set (xe_call (by walk_at "x") ⟨p, k, b, .range x y, hp, hb, db, hq, hn, rfl, rfl⟩)) ?_
    rw [e1, e2]
    walk_at "if1"
    exact xs_ret (by walk_at "x")
  | rank x =>
    rw [ans_rank ht]
    dsimp only [sideQ, encOQ]
    obtain ⟨i, e1⟩ := rank_form p x a
    obtain ⟨j, e2⟩ := rank_form p x b
    refine xs_ifs (b := D.isN (encQ (.rank x))) (by walk_at "x") (fun h => by cases h) (fun _ => xs_nseq ?_)
    refine xs_ifs (b := D.isN (encQ (.rank x))) (by walk_at "x") (fun h => by cases h) (fun _ => xs_nseq ?_)
    refine xs_seq (xs_set (xe_call (by walk_at "x") ⟨p, k, a, .rank x, hp, ha, da, hq, hn, rfl, rfl⟩)) ?_
    refine xs_seq (xs_set (xe_call (by walk_at "x") ⟨p, k, b, .rank x, hp, hb, db, hq, hn, rfl, rfl⟩)) ?_
    rw [e1, e2]
    walk_at "if0"
    dsimp only [encA, addA]
    exact xs_ret (by walk_at "x")
theorem pr_part_answer (F : DefAt K mg "part_answer" s_part_answer) (FB : DefAt K mg "branch_answer" s_branch_answer) (T : Txt K mg C eRow) (h_summary_of : Pr P w K mg base 24 "summary_of" ["sealer", "tree"] (spD K (Rsumm C 20))) (h_told : Pr P w K mg base 3 "told" ["question", "summary"] (spD K Rtold))
    (h_side_questions : Pr P w K mg base 2 "side_questions" ["question", "left", "right"] (spD K RsideQ)) (h_joined_ranges : Pr P w K mg base 1 "joined_ranges" ["one", "other"] (spD K Rjoin)) : ∀ n, n ≤ 20 → Pr P w K mg base (26 + 2 * n) "part_answer" ["sealer", "tree", "question"] (spD K (Rpa C n))
  | 0, _ => pr_none F (fun _ _ _ _ _ _ us hl => match us, hl with | [_, _, _], _ => rfl) (fun ds d ⟨p, k, t, q, _, _, h, _⟩ => by have := t.dep_pos; omega) _
  | n + 1, hn => by
    have h_part_answer := pr_part_answer F FB T h_summary_of h_told h_side_questions h_joined_ranges n (by omega)
    have h_branch_answer := pr_branch_answer FB T (n := n) (m := 2 * n) (by omega) h_part_answer h_summary_of h_side_questions h_joined_ranges
    have e5 : 26 + 2 * (n + 1) = (27 + 2 * n) + 1 := by omega
    rw [e5]
    refine pr_mk F sc_part_answer (fun _ _ _ _ _ _ us hl => match us, hl with | [_, _, _], _ => rfl) (fun ds d ⟨p, k, t, q, _, _, _, _, _, e, _⟩ => by rw [e]; rfl) fun f cdv A outer s0 H E hr => ⟨_, (pss_cons (ps_set (i := 3) sc_part_answer.nd rfl (by first | exact .inl rfl | exact .inr rfl) (pe_callD h_told (hr.mono (by omega)) rfl (pa_cons (pv 2) (pa_cons (pe_callD h_summary_of (hr.mono (by omega)) rfl (pa_cons (pv 0) (pa_cons (pv 1) pa_nil))) pa_nil))))
    (pss_cons (ps_if (pt_cmpR op_notN (pv 3) pe_non (nomark _)) (pss_one (ps_ret (pe_ix (ix_K (K := K) rfl) (pv 3) (pe_int) (fun _ _ => rfl)))) pss_nil)
    (pss_cons (ps_if (pt_cmpR op_eq (pe_ix (ix_K (K := K) rfl) (pv 1) (pe_int) (fun _ _ => rfl)) (pe_str) (nomark _)) pss_never pss_nil)
    (pss_cons (ps_if (pt_cmpR op_eq (pe_ix (ix_K (K := K) rfl) (pv 1) (pe_int) (fun _ _ => rfl)) (pe_str) (nomark _)) (pss_one (ps_ret (pe_tup (pa_cons (pe_ix (ix_K (K := K) rfl) (pv 1) (pe_int) (fun _ _ => rfl)) (pa_cons (pe_ix (ix_K (K := K) rfl) (pv 1) (pe_int) (fun _ _ => rfl)) pa_nil))))) pss_nil)
    (pss_one (ps_ret (pe_callD h_branch_answer (hr.mono (by omega)) rfl (pa_cons (pv 0) (pa_cons (pv 1) (pa_cons (pv 2) pa_nil)))))))))), ?_⟩
    rintro ds d ⟨p, k, t, q, hp, ht, hd, hq, hs, rfl, rfl⟩
    have hd2 : t.dep ≤ 20 := by omega
    have so := summ_ok p ht
    refine xs_seq (xs_set (xe_call (by walk_at "x") ⟨q, k, summ p t, hq, hs, so, rfl, rfl⟩)) ?_
    cases e : toldQ q (summ p t) with
    | some a =>
      rw [ans_told e]
      dsimp only [encTold]
      refine xs_ifs (b := !D.isN (.tup [.str "told", encA a])) (by walk_at "x") (fun _ => xs_seqr ?_) (fun h => by cases h)
      exact xs_ret (by walk_at "x")
    | none =>
      dsimp only [encTold]
      refine xs_ifs (b := !D.isN .non) (by walk_at "x") (fun h => absurd h (by decide)) (fun _ => xs_nseq ?_)
      cases t with
      | lf l =>
        dsimp only [encT]
        rw [ans_none_lf e]
        walk_at "if0"
        walk_at "if1"
        walk_at "ret"
      | br a b =>
        have ha := ht.l
        have hb := ht.r
        have da := dep_l hd
        have db := dep_r hd
        have er : encT (.br a b) = .tup [.str "branch", encT a, encT b] := rfl
        rw [er]
        walk_at "if0"
        walk_at "if0"
        exact xs_ret (xe_call (by walk_at "x") ⟨p, k, a, b, q, hp, ha, hb, da, db, hq, hs, e, rfl, rfl⟩)
abbrev s_empty_answer : Stmt := top 52
theorem sc_empty_answer : FnScope ["question"] ["question"] (defScope s_empty_answer) := ⟨rfl, rfl, rfl, by decide +kernel, rfl, by decide +kernel, by decide +kernel⟩
theorem pr_empty_answer (F : DefAt K mg "empty_answer" s_empty_answer) (T : Txt K mg C eRow) : Pr P w K mg base 1 "empty_answer" ["question"] (spD K Rempty) := by
  refine pr_mk F sc_empty_answer (fun _ _ _ _ _ _ us hl => match us, hl with | [_], _ => rfl) (fun ds d ⟨q, _, e, _⟩ => by rw [e]; rfl) fun f cdv A outer s0 H E hr => ⟨_, (pss_cons (ps_if (PW.pt (pw_or (pt_cmpR op_eq (pe_ix (ix_K (K := K) rfl) (pv 0) (pe_int) (fun _ _ => rfl)) (pe_str) (nomark _)) (pw_or1 (pt_cmpR op_eq (pe_ix (ix_K (K := K) rfl) (pv 0) (pe_int) (fun _ _ => rfl)) (pe_str) (nomark _))))) (pss_one (ps_ret (pe_int))) pss_nil)
    (pss_cons (ps_if (pt_cmpR op_eq (pe_ix (ix_K (K := K) rfl) (pv 0) (pe_int) (fun _ _ => rfl)) (pe_str) (nomark _)) (pss_one (ps_ret (pe_tup (pa_cons (pe_int) (pa_cons (pe_non) pa_nil))))) pss_nil)
    (pss_one (ps_ret (pe_non))))), ?_⟩
  rintro ds d ⟨q, hn, rfl, rfl⟩
  cases q with
  | several l => exact hn.elim
  | count =>
    walk_at "if1"
    walk_at "ret"
  | rank x =>
    walk_at "if1"
    walk_at "ret"
  | range x y =>
    walk_at "if0"
    walk_at "if1"
    walk_at "ret"
  | total =>
    walk_at "if0"
    walk_at "if0"
    walk_at "ret"
  | leaf x =>
    walk_at "if0"
    walk_at "if0"
    walk_at "ret"
  | place i =>
    walk_at "if0"
    walk_at "if0"
    walk_at "ret"
  | next x =>
    walk_at "if0"
    walk_at "if0"
    walk_at "ret"
abbrev s_ask : Stmt := top 53
theorem sc_ask : FnScope ["sealer", "tree", "question", "name"] ["sealer", "tree", "question"] (defScope s_ask) := ⟨rfl, rfl, rfl, by decide +kernel, rfl, by decide +kernel, by decide +kernel⟩
/-- ask at a question that is no «several» -/
theorem pr_ask0 (F : DefAt K mg "ask" s_ask) (T : Txt K mg C eRow) (h_part_answer : Pr P w K mg base 66 "part_answer" ["sealer", "tree", "question"] (spD K (Rpa C 20))) (h_empty_answer : Pr P w K mg base 1 "empty_answer" ["question"] (spD K Rempty)) (h_ask : Pr P w K mg base 66 "ask" ["sealer", "tree", "question"] (spD K fun _ _ => False)) :
    Pr P w K mg base 67 "ask" ["sealer", "tree", "question"] (spD K (Rask0 C 20)) := by
  refine pr_mk F sc_ask (fun _ _ _ _ _ _ us hl => match us, hl with | [_, _, _], _ => rfl) (fun ds d ⟨p, k, o, q, _, _, _, _, e, _⟩ => by rw [e]; rfl) fun f cdv A outer s0 H E hr => ⟨_, (pss_cons (ps_if (pt_cmpR op_eq (pe_ix (ix_K (K := K) rfl) (pv 2) (pe_int) (fun _ _ => rfl)) (pe_str) (nomark _)) (pss_one (ps_ret (pe_callTy (call_tupK (K := K) rfl) (by rfl) T.tuple (by decide +kernel) (pa_cons (pe_lc (own := [("name", 3)]) rfl sc_ask.nd (pi_tupK (K := K) rfl (pe_ix (ix_K (K := K) rfl) (pv 2) (pe_int) (fun _ _ => rfl))) (blkOk_by (by kernel_rfl)) (fun _ _ _ _ _ => (pg_name (i := 3) sc_ask.nd rfl (by first | exact .inl rfl | exact .inr rfl))) (fun _ _ _ _ _ => pts_nil) (fun _ _ _ _ _ => (pe_callD h_ask (hr.mono (by omega)) rfl (pa_cons (pv 0) (pa_cons (pv 1) (pa_cons (pe_tup (pa_cons (pe_str) (pa_cons (pv 3) pa_nil))) pa_nil)))))) pa_nil)))) pss_nil)
    (pss_cons (ps_if (pt_cmpR op_isN (pv 1) pe_non (nomark _)) (pss_one (ps_ret (pe_callD h_empty_answer (hr.mono (by omega)) rfl (pa_cons (pv 2) pa_nil)))) pss_nil)
    (pss_one (ps_ret (pe_callD h_part_answer (hr.mono (by omega)) rfl (pa_cons (pv 0) (pa_cons (pv 1) (pa_cons (pv 2) pa_nil)))))))), ?_⟩
  rintro ds d ⟨p, k, o, q, hp, ho, hq, hn, rfl, rfl⟩
  have nosev : XT K (tTest (tOp rEq (tOp (rIx K) (tVar 2) (tC (.int 0))) (tC (.str "several")))) (startD ["sealer", "tree", "question", "name"] [.obj C p, encTo o, encQ q]) false := by
    cases q with
    | several l => exact hn.elim
    | count => exact XT.to (by walk_at "x") (by decide +kernel)
    | rank x => exact XT.to (by walk_at "x") (by decide +kernel)
    | range x y => exact XT.to (by walk_at "x") (by decide +kernel)
    | total => exact XT.to (by walk_at "x") (by decide +kernel)
    | leaf x => exact XT.to (by walk_at "x") (by decide +kernel)
    | place i => exact XT.to (by walk_at "x") (by decide +kernel)
    | next x => exact XT.to (by walk_at "x") (by decide +kernel)
  refine xs_ifs (b := false) nosev (fun h => by cases h) fun _ => xs_nseq ?_
  cases o with
  | none =>
    have e : askA p none q = emptyA q := by
      cases q with
      | several l => exact hn.elim
      | _ => rfl
    rw [e]
    refine xs_ifs (b := true) (XT.to (by walk_at "x") (show D.isN (encTo none) = true from rfl)) (fun _ => xs_seqr ?_) fun h => by cases h
    exact xs_ret (by walk_at "x")
  | some t =>
    obtain ⟨ht, hd⟩ := ho t rfl
    have e : askA p (some t) q = ans p t q := by
      cases q with
      | several l => exact hn.elim
      | _ => rfl
    rw [e]
    refine xs_ifs (b := false) (XT.to (by walk_at "x") (show D.isN (encTo (some t)) = false from encT_ne t)) (fun h => by cases h) fun _ => xs_nseq ?_
    exact xs_ret (xe_call (by walk_at "x") ⟨p, k, t, q, hp, ht, hd, hq, hn, rfl, rfl⟩)
theorem encAs_map {α : Type} (g : α → An) : ∀ l : List α, encAs (l.map g) = l.map fun x => encA (g x)
  | [] => rfl
  | x :: r => congrArg (encA (g x) :: ·) (encAs_map g r)
theorem ask_sev (p : Int) (o : Option T) (l : List Str) : encA (askA p o (.several l)) = .tup (l.map fun x => encA (askA p o (.leaf x))) := by
  cases o with
  | none =>
    show D.tup (encAs (l.map fun _ => An.non)) = _
    rw [encAs_map]
    rfl
  | some t =>
    show D.tup (encAs (l.map fun x => ans p t (.leaf x))) = _
    rw [encAs_map]
    rfl
theorem map_str_at {l : List Str} {n : Nat} {d : D} (h : (l.map D.str)[n]? = some d) : ∃ i, l[n]? = some i ∧ d = .str i := by
  rw [List.getElem?_map] at h
  cases e : l[n]? with
  | none => rw [e] at h; cases h
  | some i =>
    rw [e] at h
    cases h
    exact ⟨i, rfl, rfl⟩
theorem pr_ask (F : DefAt K mg "ask" s_ask) (T : Txt K mg C eRow) (h_part_answer : Pr P w K mg base 66 "part_answer" ["sealer", "tree", "question"] (spD K (Rpa C 20))) (h_empty_answer : Pr P w K mg base 1 "empty_answer" ["question"] (spD K Rempty)) : Pr P w K mg base 68 "ask" ["sealer", "tree", "question"] (spD K (Rask C 20)) := by
  have h_none : Pr P w K mg base 66 "ask" ["sealer", "tree", "question"] (spD K fun _ _ => False) := pr_none F (fun _ _ _ _ _ _ us hl => match us, hl with | [_, _, _], _ => rfl) (fun _ _ h => h) 66
  have h_ask := pr_ask0 F T h_part_answer h_empty_answer h_none
  refine pr_mk F sc_ask (fun _ _ _ _ _ _ us hl => match us, hl with | [_, _, _], _ => rfl) (fun ds d ⟨p, k, o, q, _, _, _, e, _⟩ => by rw [e]; rfl) fun f cdv A outer s0 H E hr => ⟨_, (pss_cons (ps_if (pt_cmpR op_eq (pe_ix (ix_K (K := K) rfl) (pv 2) (pe_int) (fun _ _ => rfl)) (pe_str) (nomark _)) (pss_one (ps_ret (pe_callTy (call_tupK (K := K) rfl) (by rfl) T.tuple (by decide +kernel) (pa_cons (pe_lc (own := [("name", 3)]) rfl sc_ask.nd (pi_tupK (K := K) rfl (pe_ix (ix_K (K := K) rfl) (pv 2) (pe_int) (fun _ _ => rfl))) (blkOk_by (by kernel_rfl)) (fun _ _ _ _ _ => (pg_name (i := 3) sc_ask.nd rfl (by first | exact .inl rfl | exact .inr rfl))) (fun _ _ _ _ _ => pts_nil) (fun _ _ _ _ _ => (pe_callD h_ask (hr.mono (by omega)) rfl (pa_cons (pv 0) (pa_cons (pv 1) (pa_cons (pe_tup (pa_cons (pe_str) (pa_cons (pv 3) pa_nil))) pa_nil)))))) pa_nil)))) pss_nil)
    (pss_cons (ps_if (pt_cmpR op_isN (pv 1) pe_non (nomark _)) (pss_one (ps_ret (pe_callD h_empty_answer (hr.mono (by omega)) rfl (pa_cons (pv 2) pa_nil)))) pss_nil)
    (pss_one (ps_ret (pe_callD h_part_answer (hr.mono (by omega)) rfl (pa_cons (pv 0) (pa_cons (pv 1) (pa_cons (pv 2) pa_nil)))))))), ?_⟩
  rintro ds d ⟨p, k, o, q, hp, ho, hq, rfl, rfl⟩
  by_cases hn : NotSev q
  · skip
    have nosev : XT K (tTest (tOp rEq (tOp (rIx K) (tVar 2) (tC (.int 0))) (tC (.str "several")))) (startD ["sealer", "tree", "question", "name"] [.obj C p, encTo o, encQ q]) false := by
      cases q with
      | several l => exact hn.elim
      | count => exact XT.to (by walk_at "x") (by decide +kernel)
      | rank x => exact XT.to (by walk_at "x") (by decide +kernel)
      | range x y => exact XT.to (by walk_at "x") (by decide +kernel)
      | total => exact XT.to (by walk_at "x") (by decide +kernel)
      | leaf x => exact XT.to (by walk_at "x") (by decide +kernel)
      | place i => exact XT.to (by walk_at "x") (by decide +kernel)
      | next x => exact XT.to (by walk_at "x") (by decide +kernel)
    refine xs_ifs (b := false) nosev (fun h => by cases h) fun _ => xs_nseq ?_
    cases o with
    | none =>
      have e : askA p none q = emptyA q := by
        cases q with
        | several l => exact hn.elim
        | _ => rfl
      rw [e]
      refine xs_ifs (b := true) (XT.to (by walk_at "x") (show D.isN (encTo none) = true from rfl)) (fun _ => xs_seqr ?_) fun h => by cases h
      exact xs_ret (by walk_at "x")
    | some t =>
      obtain ⟨ht, hd⟩ := ho t rfl
      have e : askA p (some t) q = ans p t q := by
        cases q with
        | several l => exact hn.elim
        | _ => rfl
      rw [e]
      refine xs_ifs (b := false) (XT.to (by walk_at "x") (show D.isN (encTo (some t)) = false from encT_ne t)) (fun h => by cases h) fun _ => xs_nseq ?_
      exact xs_ret (xe_call (by walk_at "x") ⟨p, k, t, q, hp, ht, hd, hq, hn, rfl, rfl⟩)
  · cases q with
    | several l =>
      obtain ⟨hl, hm⟩ : l.length ≤ 1000 ∧ ∀ x ∈ l, Nm x := hq
      have hz : (l.map D.str).length ≤ 100000 := by
        rw [List.length_map]
        omega
      walk_at "if1"
      rw [ask_sev]
      refine xs_ret (xe_cb (xa_cons (xe_lcx (l.map fun x => encA (askA p o (.leaf x))) (by rw [List.length_map, List.length_map]) (xi_tup (by walk_at "x")) hz fun m d y h1 h2 => ?_) xa_nil) xc_tupL)
      obtain ⟨x, hx, rfl⟩ := map_str_at h1
      rw [List.getElem?_map, hx] at h2
      cases h2
      have nx := hm x (List.mem_of_getElem? hx)
      exact xe_call (by walk_at "x") ⟨p, k, o, .leaf x, hp, ho, nx, trivial, rfl, rfl⟩
    | _ => exact absurd trivial hn
end
end SG

namespace SG
open PySem L2
local macro_rules | `(tactic| walk_at "xR") => `(tactic| first
  | ((with_reducible show Rnum _ _); exact ⟨_, by assumption, rfl, rfl⟩)
  | ((with_reducible show Rbit _ _); exact ⟨_, _, by assumption, by first | assumption | decide | omega, rfl, rfl⟩)
  | ((with_reducible show Rpart _ _); exact ⟨_, _, by assumption, by assumption, rfl, rfl⟩)
  | ((with_reducible show Risn _ _); exact ⟨_, by assumption, rfl, rfl⟩)
  | ((with_reducible show Rleast _ _); exact ⟨_, _, by assumption, rfl, rfl⟩)
  | ((with_reducible show Rgreat _ _); exact ⟨_, _, by assumption, rfl, rfl⟩)
  | ((with_reducible show RlfRow _ _); exact ⟨_, _, by assumption, rfl, rfl⟩)
  | ((with_reducible show RsmNums _ _); exact ⟨_, _, by assumption, rfl, rfl⟩)
  | ((with_reducible show RbrRow _ _); exact ⟨_, _, _, by assumption, by assumption, rfl, rfl⟩)
  | ((with_reducible show RbrSm _ _ _); exact ⟨_, _, _, _, by assumption, by assumption, by assumption, rfl, rfl⟩)
  | ((with_reducible show Rworths _ _); exact ⟨_, by assumption, by assumption, rfl, rfl⟩)
  | ((with_reducible show Rnotes _ _); exact ⟨_, by assumption, by assumption, rfl, rfl⟩)
  | ((with_reducible show RisLeaf _ _); exact ⟨_, _, by assumption, rfl, rfl⟩)
  | ((with_reducible show RareSides _ _); exact ⟨_, _, _, by assumption, by assumption, rfl, rfl⟩)
  | ((with_reducible show RisIn _ _); exact ⟨_, _, _, _, by assumption, by assumption, rfl, rfl⟩)
  | ((with_reducible show Rsl _ _ _); exact ⟨_, _, by assumption, by first | assumption | omega, rfl, rfl⟩)
  | ((with_reducible show Rsumm _ _ _ _); exact ⟨_, _, _, by assumption, by assumption, by first | assumption | omega, rfl, rfl⟩)
  | ((with_reducible show Rtop _ _ _ _); exact ⟨_, _, _, by assumption, by assumption, rfl, rfl⟩)
  | ((with_reducible show Rroot _ _ _ _); exact ⟨_, _, _, by assumption, by assumption, rfl, rfl⟩)
  | ((with_reducible show Rkinds _ _ _); exact ⟨_, _, by assumption, by first | assumption | omega, rfl, rfl⟩)
  | ((with_reducible show Rvalid _ _ _ _); exact ⟨_, _, _, by assumption, by first | assumption | omega, rfl, rfl⟩)
  | ((with_reducible show Rorder _ _ _); exact ⟨_, _, by assumption, by first | assumption | omega, rfl, rfl⟩)
  | ((with_reducible show Rwf _ _ _ _); exact ⟨_, _, _, by assumption, rfl, rfl⟩)
  | ((with_reducible show RleafT _ _); exact ⟨_, _, _, by assumption, by assumption, rfl, rfl⟩)
  | ((with_reducible show RrangeT _ _); exact ⟨_, _, _, _, by assumption, by assumption, by assumption, rfl, rfl⟩)
  | ((with_reducible show RrankT _ _); exact ⟨_, _, _, by assumption, by assumption, rfl, rfl⟩)
  | ((with_reducible show RplaceT _ _); exact ⟨_, _, _, by assumption, rfl, rfl⟩)
  | ((with_reducible show RnextT _ _); exact ⟨_, _, _, by assumption, by assumption, rfl, rfl⟩)
  | ((with_reducible show Rtold _ _); exact ⟨_, _, _, by assumption, by assumption, by assumption, rfl, rfl⟩)
  | ((with_reducible show RsideQ _ _); exact ⟨_, _, _, _, by assumption, by assumption, by assumption, rfl, rfl⟩)
  | ((with_reducible show Rjoin _ _); exact ⟨_, _, _, _, _, by assumption, by assumption, by assumption, rfl, rfl⟩)
  | ((with_reducible show Rempty _ _); exact ⟨_, by assumption, rfl, rfl⟩)
  | ((with_reducible show Rask0 _ _ _ _); exact ⟨_, _, _, _, by assumption, by assumption, by assumption, by assumption, rfl, rfl⟩)
  | ((with_reducible show Rcell _ _); exact ⟨_, _, by assumption, by first | assumption | omega, rfl, rfl⟩)
  | ((with_reducible show Rname _ _); exact ⟨_, rfl, rfl⟩)
  | ((with_reducible show Rmod _ _); exact ⟨_, rfl, rfl⟩)
  | ((with_reducible show Rlsl _ _); exact ⟨_, _, by assumption, by first | assumption | omega, rfl, rfl⟩)
  | ((with_reducible show Rlrow _ _ _); exact ⟨_, _, _, by assumption, by assumption, by first | assumption | omega, rfl, rfl⟩)
  | ((with_reducible show Rlsum _ _ _); exact ⟨_, _, _, by assumption, by assumption, by first | assumption | omega, rfl, rfl⟩)
  | ((with_reducible show Rltop _ _ _); exact ⟨_, _, _, by assumption, by assumption, rfl, rfl⟩)
  | ((with_reducible show Rlroot _ _ _); exact ⟨_, _, _, by assumption, by assumption, rfl, rfl⟩)
  | ((with_reducible show Rbits _ _); exact ⟨_, by assumption, rfl, rfl⟩)
  | ((with_reducible show Rquest _ _); exact ⟨_, rfl, rfl⟩)
  | ((with_reducible show Rsums _ _); exact ⟨_, _, by assumption, by first | assumption | omega, rfl, rfl⟩)
  | skip)
local macro_rules | `(tactic| walk_at "sub") => `(tactic| repeat first | exact sub_nil | refine sub_none ?_ | refine sub_same ?_)
local macro_rules | `(tactic| walk_at "xl") => `(tactic| first | decide | (simp only [List.length_cons, List.length_nil, List.length_append, List.length_map]; omega) | skip)
local macro_rules | `(tactic| walk_at "xr") => `(tactic| first
  | with_reducible exact xr_addI | with_reducible exact xr_sub | with_reducible exact xr_eqS | with_reducible exact xr_eqI | with_reducible exact xr_isN | with_reducible exact xr_notN
  | with_reducible exact xr_ltI | with_reducible exact xr_leI | with_reducible exact xr_gtI | with_reducible exact xr_geI | with_reducible exact xr_neS | with_reducible exact xr_neI
  | with_reducible exact xr_ltS | with_reducible exact xr_leS | with_reducible exact xr_gtS | with_reducible exact xr_inC | with_reducible exact xr_xor
  | ((with_reducible apply xr_ixTi); (next => decide); (next => exact rfl))
  | ((with_reducible apply xr_ixLi); (next => decide); (next => exact rfl))
  | ((with_reducible apply xr_addT); walk_at "xl") | ((with_reducible apply xr_addL); walk_at "xl") | ((with_reducible apply xr_addS); walk_at "xl")
  | ((with_reducible apply xr_mulI); first | exact .inl ⟨by decide, by decide⟩ | exact .inr ⟨by decide, by decide⟩ | exact .inl ⟨by omega, by omega⟩ | exact .inr ⟨by omega, by omega⟩ | skip)
  | ((with_reducible apply xr_fdiv); first | exact ⟨by decide, by decide⟩ | exact ⟨by omega, by omega⟩ | skip) | ((with_reducible apply xr_mod); first | assumption | decide | omega | skip) | ((with_reducible apply xr_shr); first | decide | omega | skip)
  | skip)
local macro_rules | `(tactic| walk_at "xc") => `(tactic| first
  | with_reducible exact xc_lenT | with_reducible exact xc_lenL | with_reducible exact xc_lenQ | with_reducible exact xc_int | with_reducible exact xc_abs | with_reducible exact xc_listT | with_reducible exact xc_tupL
  | ((with_reducible apply xc_lenS); first | assumption | omega | skip) | with_reducible exact xc_sum | with_reducible exact xc_all | skip)
local macro_rules | `(tactic| walk_at "xe") => `(tactic| first
  | ((with_reducible apply xe_var); exact rfl) | with_reducible exact xe_int | with_reducible exact xe_str | with_reducible exact xe_non | with_reducible exact xe_bl
  | ((with_reducible apply xe_op) <;> walk_at "x") | ((with_reducible apply xe_tup) <;> walk_at "x") | ((with_reducible apply xe_cb) <;> walk_at "x")
  | ((with_reducible apply xe_call) <;> walk_at "x") | ((with_reducible apply xe_lst) <;> walk_at "x")
  | ((with_reducible apply xe_meth) <;> walk_at "x") | ((with_reducible apply xe_bits) <;> walk_at "x") | ((with_reducible apply xe_not) <;> walk_at "x")
  | ((with_reducible apply xe_and) <;> walk_at "x") | ((with_reducible apply xe_or) <;> walk_at "x") | ((with_reducible apply xe_chain) <;> walk_at "x")
  | ((with_reducible apply xe_slT) <;> walk_at "x") | ((with_reducible apply xe_fld) <;> walk_at "x") | skip)
local macro_rules | `(tactic| walk_at "x") => `(tactic| first
  | ((with_reducible show XE _ _ _ _); walk_at "xe") | ((with_reducible show XR _ _ _ _ _); walk_at "xr") | ((with_reducible show XC _ _ _ _); walk_at "xc")
  | with_reducible exact xa_nil | ((with_reducible apply xa_cons) <;> walk_at "x")
  | ((with_reducible apply xt_test) <;> walk_at "x") | ((with_reducible apply xt_B) <;> walk_at "x") | ((with_reducible apply xt_and) <;> walk_at "x") | ((with_reducible apply xt_or) <;> walk_at "x")
  | ((with_reducible apply xt_not) <;> walk_at "x") | with_reducible exact xt_yes
  | with_reducible exact xo_none | ((with_reducible apply xo_some) <;> walk_at "x")
  | ((with_reducible show List.length _ ≤ 100000); walk_at "xl") | ((with_reducible show (_ == _) = false); decide +kernel) | ((with_reducible show Cls _ _); assumption) | ((with_reducible show NoAttr _ _ _); assumption) | ((with_reducible intro _); walk_at "x") | walk_at "xR")
local macro_rules | `(tactic| walk_at "if0") => `(tactic| (refine xs_ifs (b := false) (XT.to (by walk_at "x") (by decide +kernel)) (fun h => (by cases h)) fun _ => xs_nseq ?_))
local macro_rules | `(tactic| walk_at "if1") => `(tactic| (refine xs_ifs (b := true) (XT.to (by walk_at "x") (by decide +kernel)) (fun _ => xs_seqr ?_) fun h => (by cases h)))
local macro_rules | `(tactic| walk_at "ret") => `(tactic| ((refine xs_ret' (by walk_at "x") ?_); (first | done | rfl | skip)))

section
variable {P : Program} {w : World} {K : PySem.W.Frag} {mg : Str → Option Value} {base : Heap} {C eRow : Addr} {k : Nat}
abbrev s__law_cell : Stmt := top 61
theorem sc__law_cell : FnScope ["_law_script", "_law_k"] ["_law_script", "_law_k"] (defScope s__law_cell) := ⟨rfl, rfl, rfl, by decide +kernel, rfl, by decide +kernel, by decide +kernel⟩
theorem pr__law_cell (F : DefAt K mg "_law_cell" s__law_cell) (T : Txt K mg C eRow) : Pr P w K mg base 1 "_law_cell" ["_law_script", "_law_k"] (spD K Rcell) := by
  refine pr_mk F sc__law_cell (fun _ _ _ _ _ _ us hl => match us, hl with | [_, _], _ => rfl) (fun ds d ⟨ns, i, _, _, e, _⟩ => by rw [e]; rfl) fun f cdv A outer s0 H E hr => ⟨_, (pss_cons (ps_if (pt_cmpR op_ltU (pv 1) (pe_callB (call_lenK (K := K) rfl) (by rfl) T.len PySem.boot_len (pa_cons (pv 0) pa_nil)) (nomark _)) (pss_one (ps_ret (pe_callTy call_int1 (by rfl) T.int (by decide +kernel) (pa_cons (pe_ix (ix_K (K := K) rfl) (pv 0) (pv 1) (fun _ _ => rfl)) pa_nil)))) pss_nil)
    (pss_one (ps_ret (pe_int)))), ?_⟩
  rintro ds d ⟨ns, i, hl, hi, rfl, rfl⟩
  have hm : (ns.map D.int).length = ns.length := List.length_map _
  unfold cell
  refine xs_ifs (by walk_at "x") (fun h => xs_seqr ?_) (fun h => xs_nseq ?_)
  · have h' : i.toNat < ns.length := by
      have := of_decide_eq_true h
      omega
    have e : ns[i.toNat]? = some ns[i.toNat] := List.getElem?_eq_getElem h'
    have ei : i = ((i.toNat : Nat) : Int) := by omega
    have q : (ns.map D.int)[i.toNat]? = some (.int ns[i.toNat]) := by rw [List.getElem?_map, e]; rfl
    rw [e]
    have z := xr_ixQ (K := K) q
    rw [← ei] at z
    exact xs_ret (xe_cb (xa_cons (xe_op (xe_var rfl) (xe_var rfl) z) xa_nil) xc_int)
  · have h' : ns.length ≤ i.toNat := by
      have := of_decide_eq_false h
      omega
    rw [List.getElem?_eq_none h']
    exact xs_ret xe_int
abbrev s__law_name : Stmt := top 62
theorem sc__law_name : FnScope ["_law_number_here", "_law_letters", "_law_short", "_law_rest", "_law_name_here", "_law_k"] ["_law_number_here"] (defScope s__law_name) := ⟨rfl, rfl, rfl, by decide +kernel, rfl, by decide +kernel, by decide +kernel⟩
theorem pr__law_name (F : DefAt K mg "_law_name" s__law_name) (T : Txt K mg C eRow) : Pr P w K mg base 1 "_law_name" ["_law_number_here"] (spD K Rname) := by
  refine pr_mk F sc__law_name (fun _ _ _ _ _ _ us hl => match us, hl with | [_], _ => rfl) (fun ds d ⟨n, e, _⟩ => by rw [e]; rfl) fun f cdv A outer s0 H E hr => ⟨_, (pss_cons (ps_set (i := 1) sc__law_name.nd rfl (by first | exact .inl rfl | exact .inr rfl) (pe_str))
    (pss_cons (ps_set (i := 2) sc__law_name.nd rfl (by first | exact .inl rfl | exact .inr rfl) (pe_lst (pa_cons (pe_str) (pa_cons (pe_str) (pa_cons (pe_str) (pa_cons (pe_str) (pa_cons (pe_str) (pa_cons (pe_str) (pa_cons (pe_str) (pa_cons (pe_str) (pa_cons (pe_str) (pa_cons (pe_str) (pa_cons (pe_str) (pa_cons (pe_str) (pa_cons (pe_str) (pa_cons (pe_str) (pa_cons (pe_str) (pa_cons (pe_str) pa_nil))))))))))))))))))
    (pss_cons (ps_if (pt_cmpR op_eq (pe_op op_modN (pe_callTy call_int1 (by rfl) T.int (by decide +kernel) (pa_cons (pv 0) pa_nil)) (pe_int)) (pe_int) (nomark _)) (pss_one (ps_ret (pe_ix (ix_K (K := K) rfl) (pv 2) (pe_op op_modN (pe_op op_fdivN (pe_callTy call_int1 (by rfl) T.int (by decide +kernel) (pa_cons (pv 0) pa_nil)) (pe_int)) (pe_int)) (fun _ _ => rfl)))) pss_nil)
    (pss_cons (ps_set (i := 3) sc__law_name.nd rfl (by first | exact .inl rfl | exact .inr rfl) (pe_op op_fdivN (pe_callTy call_int1 (by rfl) T.int (by decide +kernel) (pa_cons (pv 0) pa_nil)) (pe_int)))
    (pss_cons (ps_set (i := 4) sc__law_name.nd rfl (by first | exact .inl rfl | exact .inr rfl) (pe_str))
    (pss_cons (ps_for PassesOwn.never rfl (pi_range1 rfl T.range (pa_cons (pe_op (op_addK (K := K) rfl) (pe_int) (pe_op op_modN (pv 3) (pe_int))) pa_nil)) (pg_name (i := 5) sc__law_name.nd rfl (by first | exact .inl rfl | exact .inr rfl)) (pss_cons (ps_set (i := 3) sc__law_name.nd rfl (by first | exact .inl rfl | exact .inr rfl) (pe_op (op_addK (K := K) rfl) (pe_op (op_addK (K := K) rfl) (pe_op op_mulU (pv 3) (pe_int)) (pe_int)) (pv 5)))
    (pss_one (ps_set (i := 4) sc__law_name.nd rfl (by first | exact .inl rfl | exact .inr rfl) (pe_op (op_addK (K := K) rfl) (pv 4) (pe_ix (ix_K (K := K) rfl) (pv 1) (pe_op op_modN (pe_op op_fdivN (pe_callTy call_int1 (by rfl) T.int (by decide +kernel) (pa_cons (pv 3) pa_nil)) (pe_int)) (pe_int)) (fun _ _ => rfl)))))))
    (pss_one (ps_ret (pv 4))))))))), ?_⟩
  rintro ds d ⟨n, rfl, rfl⟩
  unfold lawName
  refine xs_seq (xs_set (by walk_at "x")) ?_
  refine xs_seq (xs_set (by walk_at "x")) ?_
  refine xs_ifs (by walk_at "x") (fun h => xs_seqr ?_) (fun h => xs_nseq ?_)
  · rw [if_pos (of_decide_eq_true h)]
    have r := fmod_rng (n.fdiv 3) (m := 16) (by decide)
    have hl : ((n.fdiv 3).fmod 16).toNat < shorts.length := by have e : shorts.length = 16 := rfl; omega
    have q := (getD_mem (l := shorts) (x := ("a" : Str)) hl).2
    have q2 : (shorts.map D.str)[((n.fdiv 3).fmod 16).toNat]? = some (.str ((shorts[((n.fdiv 3).fmod 16).toNat]?).getD "a")) := by rw [List.getElem?_map]; exact congrArg (Option.map D.str) q
    exact xs_ret (xe_op (xe_var rfl) (by walk_at "x") (xr_ixLi r.1 q2))
  · rw [if_neg (of_decide_eq_false h)]
    have r := fmod_rng (n.fdiv 3) (m := 8) (by decide)
    refine xs_seq (xs_set (by walk_at "x")) ?_
    refine xs_seq (xs_set (by walk_at "x")) ?_
    refine xs_seq (xs_for (xi_range1 (by walk_at "x") (by omega)) (fun m => [none, some (.str alphS), none, some (.int (lwRest (n.fdiv 3) m)), some (.str (lwName (n.fdiv 3) m)), none]) (by walk_at "sub") fun m d hd => ?_) ?_
    · obtain ⟨hm, rfl⟩ := rngD_get0 hd
      refine ⟨_, [none, some (.str alphS), none, some (.int (lwRest (n.fdiv 3) (m + 1))), some (.str (lwName (n.fdiv 3) (m + 1))), none], xg_name, ?_, Sub.refl _⟩
      have r2 := fmod_rng ((lwRest (n.fdiv 3) (m + 1)).fdiv 11) (m := 37) (by decide)
      have la : alphS.cps.toList = alph := by rw [alphS_eq]
      have hl : (((lwRest (n.fdiv 3) (m + 1)).fdiv 11).fmod 37).toNat < alph.length := by have e : alph.length = 37 := (by decide); omega
      have q := (getD_mem (l := alph) (x := 48) hl).2
      have len1 : (lwName (n.fdiv 3) m).length ≤ 100 := by
        rw [cps_len, lwName_len]
        omega
      have al : alphS.length ≤ 100000 := by decide +kernel
      refine xs_seq (xs_set (by walk_at "x")) ?_
      refine (xs_set (xe_op (xe_var rfl) (xe_op (xe_var rfl) (by walk_at "x") (XR.at (xr_ixS (n := (((lwRest (n.fdiv 3) (m + 1)).fdiv 11).fmod 37).toNat) al (by rw [la]; exact q)) ?_)) (xr_addS ?_))).weak ?_
      · exact Int.toNat_of_nonneg r2.1
      · show (lwName (n.fdiv 3) m).length + 1 ≤ 100000
        omega
      · walk_at "sub"
    · refine xs_ret' (by walk_at "x") ?_
      rw [rngD_len]
abbrev s__law_modulus : Stmt := top 65
theorem sc__law_modulus : FnScope ["_law_number_here", "_law_small"] ["_law_number_here"] (defScope s__law_modulus) := ⟨rfl, rfl, rfl, by decide +kernel, rfl, by decide +kernel, by decide +kernel⟩
theorem pr__law_modulus (F : DefAt K mg "_law_modulus" s__law_modulus) (T : Txt K mg C eRow) : Pr P w K mg base 1 "_law_modulus" ["_law_number_here"] (spD K Rmod) := by
  refine pr_mk F sc__law_modulus (fun _ _ _ _ _ _ us hl => match us, hl with | [_], _ => rfl) (fun ds d ⟨n, e, _⟩ => by rw [e]; rfl) fun f cdv A outer s0 H E hr => ⟨_, (pss_cons (ps_set (i := 1) sc__law_modulus.nd rfl (by first | exact .inl rfl | exact .inr rfl) (pe_lst (pa_cons (pe_int) (pa_cons (pe_int) (pa_cons (pe_int) (pa_cons (pe_int) (pa_cons (pe_int) (pa_cons (pe_int) (pa_cons (pe_int) (pa_cons (pe_int) pa_nil))))))))))
    (pss_cons (ps_if (pt_cmpR op_eq (pe_op op_modN (pv 0) (pe_int)) (pe_int) (nomark _)) (pss_one (ps_ret (pe_ix (ix_K (K := K) rfl) (pv 1) (pe_op op_modN (pe_op op_fdivN (pv 0) (pe_int)) (pe_int)) (fun _ _ => rfl)))) pss_nil)
    (pss_cons (ps_if (pt_cmpR op_eq (pe_op op_modN (pv 0) (pe_int)) (pe_int) (nomark _)) (pss_one (ps_ret (pe_op op_sub (pe_int) (pe_op op_modN (pe_op op_fdivN (pv 0) (pe_int)) (pe_int))))) pss_nil)
    (pss_one (ps_ret (pe_op (op_addK (K := K) rfl) (pe_int) (pe_op op_modN (pe_op op_fdivN (pv 0) (pe_int)) (pe_int)))))))), ?_⟩
  rintro ds d ⟨n, rfl, rfl⟩
  unfold lawMod
  refine xs_seq (xs_set (by walk_at "x")) ?_
  refine xs_ifs (by walk_at "x") (fun h => xs_seqr ?_) (fun h => xs_nseq ?_)
  · rw [if_pos (of_decide_eq_true h)]
    have r := fmod_rng (n.fdiv 3) (m := 8) (by decide)
    have hl : ((n.fdiv 3).fmod 8).toNat < smalls.length := by have e : smalls.length = 8 := rfl; omega
    have q := (getD_mem (l := smalls) (x := (3 : Int)) hl).2
    have q2 : (smalls.map D.int)[((n.fdiv 3).fmod 8).toNat]? = some (.int ((smalls[((n.fdiv 3).fmod 8).toNat]?).getD 3)) := by rw [List.getElem?_map]; exact congrArg (Option.map D.int) q
    exact xs_ret (xe_op (xe_var rfl) (by walk_at "x") (xr_ixLi r.1 q2))
  · rw [if_neg (of_decide_eq_false h)]
    refine xs_ifs (by walk_at "x") (fun g => xs_seqr ?_) (fun g => xs_nseq ?_)
    · rw [if_pos (of_decide_eq_true g)]
      exact xs_ret (by walk_at "x")
    · rw [if_neg (of_decide_eq_false g)]
      exact xs_ret (by walk_at "x")
abbrev s__law_seal : Stmt := top 67
theorem sc__law_seal : FnScope ["_law_modulus_here", "_law_row_here", "_law_value", "_law_number_here"] ["_law_modulus_here", "_law_row_here"] (defScope s__law_seal) := ⟨rfl, rfl, rfl, by decide +kernel, rfl, by decide +kernel, by decide +kernel⟩
theorem pr__law_sl (F : DefAt K mg "_law_seal" s__law_seal) (T : Txt K mg C eRow) : Pr P w K mg base 1 "_law_seal" ["_law_modulus_here", "_law_row_here"] (spD K Rlsl) := by
  refine pr_mk F sc__law_seal (fun _ _ _ _ _ _ us hl => match us, hl with | [_, _], _ => rfl) (fun ds d ⟨p, row, _, _, e, _⟩ => by rw [e]; rfl) fun f cdv A outer s0 H E hr => ⟨_, (pss_cons (ps_set (i := 2) sc__law_seal.nd rfl (by first | exact .inl rfl | exact .inr rfl) (pe_int))
    (pss_cons (ps_for PassesOwn.never rfl (pi_listK (K := K) rfl (pe_op (op_addK (K := K) rfl) (pe_callTy (call_listK (K := K) rfl) (by rfl) T.list (by decide +kernel) (pa_cons (pv 1) pa_nil)) (pe_lst (pa_cons (pe_callB (call_lenK (K := K) rfl) (by rfl) T.len PySem.boot_len (pa_cons (pv 1) pa_nil)) pa_nil)))) (pg_name (i := 3) sc__law_seal.nd rfl (by first | exact .inl rfl | exact .inr rfl)) (pss_one (ps_set (i := 2) sc__law_seal.nd rfl (by first | exact .inl rfl | exact .inr rfl) (pe_op op_modN (pe_callTy call_int1 (by rfl) T.int (by decide +kernel) (pa_cons (pe_op (op_addK (K := K) rfl) (pe_op (op_addK (K := K) rfl) (pe_op (op_addK (K := K) rfl) (pe_op op_mulU (pe_op op_mulU (pv 2) (pv 2)) (pv 2)) (pe_op op_mulU (pe_int) (pv 2))) (pe_op op_mulU (pe_int) (pv 3))) (pe_int)) pa_nil)) (pv 0)))))
    (pss_one (ps_ret (pv 2))))), ?_⟩
  rintro ds d ⟨p, row, hp, hl, rfl, rfl⟩
  refine xs_seq (xs_set (by walk_at "x")) ?_
  refine xs_seq (xs_for (XI.to (xi_list (by walk_at "x")) (rowL_D row)) (fun n => [some (.int p), some (encI row), some (.int (((row ++ [(row.length : Int)]).take n).foldl (slStep p) 1)), none]) (by walk_at "sub") fun n d hd => ?_) ?_
  · obtain ⟨i, hi, rfl⟩ := map_at hd
    obtain ⟨v1, v2⟩ := foldl_rng hp ((row ++ [(row.length : Int)]).take n)
    have h0 : p ≠ 0 := by have := hp.lo; omega
    refine ⟨_, _, xg_name, ?_, Sub.refl _⟩
    rw [foldl_take hi]
    generalize ((row ++ [(row.length : Int)]).take n).foldl (slStep p) 1 = v at v1 v2
    refine (xs_set (by walk_at "x")).weak ?_
    walk_at "sub"
  · refine xs_ret' (by walk_at "x") ?_
    rw [List.length_map, List.take_length]
    rfl
abbrev s__law_numbers : Stmt := top 68
theorem sc__law_numbers : FnScope ["_law_summary_here"] ["_law_summary_here"] (defScope s__law_numbers) := ⟨rfl, rfl, rfl, by decide +kernel, rfl, by decide +kernel, by decide +kernel⟩
theorem pr__law_numbers (F : DefAt K mg "_law_numbers" s__law_numbers) (T : Txt K mg C eRow) (h__law_number : Pr P w K mg base 1 "_law_number" ["_law_name_here"] (spD K Rnum)) : Pr P w K mg base 2 "_law_numbers" ["_law_summary_here"] (spD K RsmNums) := by
  refine pr_mk F sc__law_numbers (fun _ _ _ _ _ _ us hl => match us, hl with | [_], _ => rfl) (fun ds d ⟨q, t, _, e, _⟩ => by rw [e]; rfl) fun f cdv A outer s0 H E hr => ⟨_, (pss_one (ps_ret (pe_op (op_addK (K := K) rfl) (pe_op (op_addK (K := K) rfl) (pe_tup (pa_cons (pe_ix (ix_K (K := K) rfl) (pv 0) (pe_int) (fun _ _ => rfl)) (pa_cons (pe_ix (ix_K (K := K) rfl) (pv 0) (pe_int) (fun _ _ => rfl)) pa_nil))) (pe_ix (ix_K (K := K) rfl) (pv 0) (pe_int) (fun _ _ => rfl))) (pe_tup (pa_cons (pe_callD h__law_number (hr.mono (by omega)) rfl (pa_cons (pe_ix (ix_K (K := K) rfl) (pv 0) (pe_int) (fun _ _ => rfl)) pa_nil)) (pa_cons (pe_callD h__law_number (hr.mono (by omega)) rfl (pa_cons (pe_ix (ix_K (K := K) rfl) (pv 0) (pe_int) (fun _ _ => rfl)) pa_nil)) pa_nil)))))), ?_⟩
  rintro ds d ⟨q, s, hs, rfl, rfl⟩
  have h0 := hs.lo
  have h1 := hs.hi
  have h2 := hs.ql
  have h3 := hs.q3
  rw [smNums_D]
  refine xs_ret' (by walk_at "x") ?_
  rfl
end
end SG

namespace SG
open PySem L2
local macro_rules | `(tactic| walk_at "xR") => `(tactic| first
  | ((with_reducible show Rnum _ _); exact ⟨_, by assumption, rfl, rfl⟩)
  | ((with_reducible show Rbit _ _); exact ⟨_, _, by assumption, by first | assumption | decide | omega, rfl, rfl⟩)
  | ((with_reducible show Rpart _ _); exact ⟨_, _, by assumption, by assumption, rfl, rfl⟩)
  | ((with_reducible show Risn _ _); exact ⟨_, by assumption, rfl, rfl⟩)
  | ((with_reducible show Rleast _ _); exact ⟨_, _, by assumption, rfl, rfl⟩)
  | ((with_reducible show Rgreat _ _); exact ⟨_, _, by assumption, rfl, rfl⟩)
  | ((with_reducible show RlfRow _ _); exact ⟨_, _, by assumption, rfl, rfl⟩)
  | ((with_reducible show RsmNums _ _); exact ⟨_, _, by assumption, rfl, rfl⟩)
  | ((with_reducible show RbrRow _ _); exact ⟨_, _, _, by assumption, by assumption, rfl, rfl⟩)
  | ((with_reducible show RbrSm _ _ _); exact ⟨_, _, _, _, by assumption, by assumption, by assumption, rfl, rfl⟩)
  | ((with_reducible show Rworths _ _); exact ⟨_, by assumption, by assumption, rfl, rfl⟩)
  | ((with_reducible show Rnotes _ _); exact ⟨_, by assumption, by assumption, rfl, rfl⟩)
  | ((with_reducible show RisLeaf _ _); exact ⟨_, _, by assumption, rfl, rfl⟩)
  | ((with_reducible show RareSides _ _); exact ⟨_, _, _, by assumption, by assumption, rfl, rfl⟩)
  | ((with_reducible show RisIn _ _); exact ⟨_, _, _, _, by assumption, by assumption, rfl, rfl⟩)
  | ((with_reducible show Rsl _ _ _); exact ⟨_, _, by assumption, by first | assumption | omega, rfl, rfl⟩)
  | ((with_reducible show Rsumm _ _ _ _); exact ⟨_, _, _, by assumption, by assumption, by first | assumption | omega, rfl, rfl⟩)
  | ((with_reducible show Rtop _ _ _ _); exact ⟨_, _, _, by assumption, by assumption, rfl, rfl⟩)
  | ((with_reducible show Rroot _ _ _ _); exact ⟨_, _, _, by assumption, by assumption, rfl, rfl⟩)
  | ((with_reducible show Rkinds _ _ _); exact ⟨_, _, by assumption, by first | assumption | omega, rfl, rfl⟩)
  | ((with_reducible show Rvalid _ _ _ _); exact ⟨_, _, _, by assumption, by first | assumption | omega, rfl, rfl⟩)
  | ((with_reducible show Rorder _ _ _); exact ⟨_, _, by assumption, by first | assumption | omega, rfl, rfl⟩)
  | ((with_reducible show Rwf _ _ _ _); exact ⟨_, _, _, by assumption, rfl, rfl⟩)
  | ((with_reducible show RleafT _ _); exact ⟨_, _, _, by assumption, by assumption, rfl, rfl⟩)
  | ((with_reducible show RrangeT _ _); exact ⟨_, _, _, _, by assumption, by assumption, by assumption, rfl, rfl⟩)
  | ((with_reducible show RrankT _ _); exact ⟨_, _, _, by assumption, by assumption, rfl, rfl⟩)
  | ((with_reducible show RplaceT _ _); exact ⟨_, _, _, by assumption, rfl, rfl⟩)
  | ((with_reducible show RnextT _ _); exact ⟨_, _, _, by assumption, by assumption, rfl, rfl⟩)
  | ((with_reducible show Rtold _ _); exact ⟨_, _, _, by assumption, by assumption, by assumption, rfl, rfl⟩)
  | ((with_reducible show RsideQ _ _); exact ⟨_, _, _, _, by assumption, by assumption, by assumption, rfl, rfl⟩)
  | ((with_reducible show Rjoin _ _); exact ⟨_, _, _, _, _, by assumption, by assumption, by assumption, rfl, rfl⟩)
  | ((with_reducible show Rempty _ _); exact ⟨_, by assumption, rfl, rfl⟩)
  | ((with_reducible show Rask0 _ _ _ _); exact ⟨_, _, _, _, by assumption, by assumption, by assumption, by assumption, rfl, rfl⟩)
  | ((with_reducible show Rcell _ _); exact ⟨_, _, by assumption, by first | assumption | omega, rfl, rfl⟩)
  | ((with_reducible show Rname _ _); exact ⟨_, rfl, rfl⟩)
  | ((with_reducible show Rmod _ _); exact ⟨_, rfl, rfl⟩)
  | ((with_reducible show Rlsl _ _); exact ⟨_, _, by assumption, by first | assumption | omega, rfl, rfl⟩)
  | ((with_reducible show Rlrow _ _ _); exact ⟨_, _, _, by assumption, by assumption, by first | assumption | omega, rfl, rfl⟩)
  | ((with_reducible show Rlsum _ _ _); exact ⟨_, _, _, by assumption, by assumption, by first | assumption | omega, rfl, rfl⟩)
  | ((with_reducible show Rltop _ _ _); exact ⟨_, _, _, by assumption, by assumption, rfl, rfl⟩)
  | ((with_reducible show Rlroot _ _ _); exact ⟨_, _, _, by assumption, by assumption, rfl, rfl⟩)
  | ((with_reducible show Rbits _ _); exact ⟨_, by assumption, rfl, rfl⟩)
  | ((with_reducible show Rquest _ _); exact ⟨_, rfl, rfl⟩)
  | ((with_reducible show Rsums _ _); exact ⟨_, _, by assumption, by first | assumption | omega, rfl, rfl⟩)
  | skip)
local macro_rules | `(tactic| walk_at "sub") => `(tactic| repeat first | exact sub_nil | refine sub_none ?_ | refine sub_same ?_)
local macro_rules | `(tactic| walk_at "xl") => `(tactic| first | decide | (simp only [List.length_cons, List.length_nil, List.length_append, List.length_map]; omega) | skip)
local macro_rules | `(tactic| walk_at "xr") => `(tactic| first
  | with_reducible exact xr_addI | with_reducible exact xr_sub | with_reducible exact xr_eqS | with_reducible exact xr_eqI | with_reducible exact xr_isN | with_reducible exact xr_notN
  | with_reducible exact xr_ltI | with_reducible exact xr_leI | with_reducible exact xr_gtI | with_reducible exact xr_geI | with_reducible exact xr_neS | with_reducible exact xr_neI
  | with_reducible exact xr_ltS | with_reducible exact xr_leS | with_reducible exact xr_gtS | with_reducible exact xr_inC | with_reducible exact xr_xor
  | ((with_reducible apply xr_ixTi); (next => decide); (next => exact rfl))
  | ((with_reducible apply xr_ixLi); (next => decide); (next => exact rfl))
  | ((with_reducible apply xr_addT); walk_at "xl") | ((with_reducible apply xr_addL); walk_at "xl") | ((with_reducible apply xr_addS); walk_at "xl")
  | ((with_reducible apply xr_mulI); first | exact .inl ⟨by decide, by decide⟩ | exact .inr ⟨by decide, by decide⟩ | exact .inl ⟨by omega, by omega⟩ | exact .inr ⟨by omega, by omega⟩ | skip)
  | ((with_reducible apply xr_fdiv); first | exact ⟨by decide, by decide⟩ | exact ⟨by omega, by omega⟩ | skip) | ((with_reducible apply xr_mod); first | assumption | decide | omega | skip) | ((with_reducible apply xr_shr); first | decide | omega | skip)
  | skip)
local macro_rules | `(tactic| walk_at "xc") => `(tactic| first
  | with_reducible exact xc_lenT | with_reducible exact xc_lenL | with_reducible exact xc_lenQ | with_reducible exact xc_int | with_reducible exact xc_abs | with_reducible exact xc_listT | with_reducible exact xc_tupL
  | ((with_reducible apply xc_lenS); first | assumption | omega | skip) | with_reducible exact xc_sum | with_reducible exact xc_all | skip)
local macro_rules | `(tactic| walk_at "xe") => `(tactic| first
  | ((with_reducible apply xe_var); exact rfl) | with_reducible exact xe_int | with_reducible exact xe_str | with_reducible exact xe_non | with_reducible exact xe_bl
  | ((with_reducible apply xe_op) <;> walk_at "x") | ((with_reducible apply xe_tup) <;> walk_at "x") | ((with_reducible apply xe_cb) <;> walk_at "x")
  | ((with_reducible apply xe_call) <;> walk_at "x") | ((with_reducible apply xe_lst) <;> walk_at "x")
  | ((with_reducible apply xe_meth) <;> walk_at "x") | ((with_reducible apply xe_bits) <;> walk_at "x") | ((with_reducible apply xe_not) <;> walk_at "x")
  | ((with_reducible apply xe_and) <;> walk_at "x") | ((with_reducible apply xe_or) <;> walk_at "x") | ((with_reducible apply xe_chain) <;> walk_at "x")
  | ((with_reducible apply xe_slT) <;> walk_at "x") | ((with_reducible apply xe_fld) <;> walk_at "x") | skip)
local macro_rules | `(tactic| walk_at "x") => `(tactic| first
  | ((with_reducible show XE _ _ _ _); walk_at "xe") | ((with_reducible show XR _ _ _ _ _); walk_at "xr") | ((with_reducible show XC _ _ _ _); walk_at "xc")
  | with_reducible exact xa_nil | ((with_reducible apply xa_cons) <;> walk_at "x")
  | ((with_reducible apply xt_test) <;> walk_at "x") | ((with_reducible apply xt_B) <;> walk_at "x") | ((with_reducible apply xt_and) <;> walk_at "x") | ((with_reducible apply xt_or) <;> walk_at "x")
  | ((with_reducible apply xt_not) <;> walk_at "x") | with_reducible exact xt_yes
  | with_reducible exact xo_none | ((with_reducible apply xo_some) <;> walk_at "x")
  | ((with_reducible show List.length _ ≤ 100000); walk_at "xl") | ((with_reducible show (_ == _) = false); decide +kernel) | ((with_reducible show Cls _ _); assumption) | ((with_reducible show NoAttr _ _ _); assumption) | ((with_reducible intro _); walk_at "x") | walk_at "xR")
local macro_rules | `(tactic| walk_at "if0") => `(tactic| (refine xs_ifs (b := false) (XT.to (by walk_at "x") (by decide +kernel)) (fun h => (by cases h)) fun _ => xs_nseq ?_))
local macro_rules | `(tactic| walk_at "if1") => `(tactic| (refine xs_ifs (b := true) (XT.to (by walk_at "x") (by decide +kernel)) (fun _ => xs_seqr ?_) fun h => (by cases h)))
local macro_rules | `(tactic| walk_at "ret") => `(tactic| ((refine xs_ret' (by walk_at "x") ?_); (first | done | rfl | skip)))

section
variable {P : Program} {w : World} {K : PySem.W.Frag} {mg : Str → Option Value} {base : Heap} {C eRow : Addr} {k : Nat}
theorem rowT_len {p : Int} {q : Nat} {t : T} (h : TOk q t) : (rowT p t).length ≤ 1000 := by
  cases t with
  | lf l => exact lfRow_len h.lf
  | br a b => exact brRow_len (summ_ok p h.l) (summ_ok p h.r)
abbrev s__law_row : Stmt := top 69
theorem sc__law_row : FnScope ["_law_modulus_here", "_law_tree", "_law_left", "_law_right"] ["_law_modulus_here", "_law_tree"] (defScope s__law_row) := ⟨rfl, rfl, rfl, by decide +kernel, rfl, by decide +kernel, by decide +kernel⟩
theorem pr__law_row (F : DefAt K mg "_law_row" s__law_row) (T : Txt K mg C eRow) {n m : Nat} (h__law_summary : Pr P w K mg base (3 + m) "_law_summary" ["_law_modulus_here", "_law_tree"] (spD K (Rlsum n))) (h__law_number : Pr P w K mg base 1 "_law_number" ["_law_name_here"] (spD K Rnum))
    (h__law_numbers : Pr P w K mg base 2 "_law_numbers" ["_law_summary_here"] (spD K RsmNums)) : Pr P w K mg base (4 + m) "_law_row" ["_law_modulus_here", "_law_tree"] (spD K (Rlrow (n + 1))) := by
  have e5 : 4 + m = (3 + m) + 1 := by omega
  rw [e5]
  refine pr_mk F sc__law_row (fun _ _ _ _ _ _ us hl => match us, hl with | [_, _], _ => rfl) (fun ds d ⟨p, q, t, _, _, _, e, _⟩ => by rw [e]; rfl) fun f cdv A outer s0 H E hr => ⟨_, (pss_cons (ps_if (pt_cmpR op_eq (pe_ix (ix_K (K := K) rfl) (pv 1) (pe_int) (fun _ _ => rfl)) (pe_str) (nomark _)) (pss_one (ps_ret (pe_op (op_addK (K := K) rfl) (pe_op (op_addK (K := K) rfl) (pe_tup (pa_cons (pe_int) (pa_cons (pe_callD h__law_number (hr.mono (by omega)) rfl (pa_cons (pe_ix (ix_K (K := K) rfl) (pv 1) (pe_int) (fun _ _ => rfl)) pa_nil)) (pa_cons (pe_callB (call_lenK (K := K) rfl) (by rfl) T.len PySem.boot_len (pa_cons (pe_ix (ix_K (K := K) rfl) (pv 1) (pe_int) (fun _ _ => rfl)) pa_nil)) pa_nil)))) (pe_ix (ix_K (K := K) rfl) (pv 1) (pe_int) (fun _ _ => rfl))) (pe_ix (ix_K (K := K) rfl) (pv 1) (pe_int) (fun _ _ => rfl))))) pss_nil)
    (pss_cons (ps_set (i := 2) sc__law_row.nd rfl (by first | exact .inl rfl | exact .inr rfl) (pe_callD h__law_summary (hr.mono (by omega)) rfl (pa_cons (pv 0) (pa_cons (pe_ix (ix_K (K := K) rfl) (pv 1) (pe_int) (fun _ _ => rfl)) pa_nil))))
    (pss_cons (ps_set (i := 3) sc__law_row.nd rfl (by first | exact .inl rfl | exact .inr rfl) (pe_callD h__law_summary (hr.mono (by omega)) rfl (pa_cons (pv 0) (pa_cons (pe_ix (ix_K (K := K) rfl) (pv 1) (pe_int) (fun _ _ => rfl)) pa_nil))))
    (pss_one (ps_ret (pe_op (op_addK (K := K) rfl) (pe_op (op_addK (K := K) rfl) (pe_tup (pa_cons (pe_int) (pa_cons (pe_callB (call_lenK (K := K) rfl) (by rfl) T.len PySem.boot_len (pa_cons (pe_ix (ix_K (K := K) rfl) (pv 2) (pe_int) (fun _ _ => rfl)) pa_nil)) pa_nil))) (pe_callD h__law_numbers (hr.mono (by omega)) rfl (pa_cons (pv 2) pa_nil))) (pe_callD h__law_numbers (hr.mono (by omega)) rfl (pa_cons (pv 3) pa_nil)))))))), ?_⟩
  rintro ds d ⟨p, q, t, hp, ht, hd, rfl, rfl⟩
  cases t with
  | lf l =>
    dsimp only [encT]
    have hl := ht.lf
    have h0 := hl.nm
    have h1 := hl.wl
    have h2 := hl.q3
    have h3 := hl.nl
    show XS K _ _ (.rt (encI (lfRow l)))
    rw [lfRow_D]
    walk_at "if1"
    walk_at "ret"
  | br a b =>
    dsimp only [encT]
    have ha := ht.l
    have hb := ht.r
    have da := dep_l hd
    have db := dep_r hd
    have sa := summ_ok p ha
    have sb := summ_ok p hb
    have la := smNums_len sa
    have lb := smNums_len sb
    show XS K _ _ (.rt (encI (brRow (summ p a) (summ p b))))
    rw [brRow_D]
    walk_at "if0"
    refine xs_seq (xs_set (d := encS (summ p a)) (by walk_at "x")) ?_
    refine xs_seq (xs_set (d := encS (summ p b)) (by walk_at "x")) ?_
    walk_at "ret"
abbrev s__law_summary : Stmt := top 70
theorem sc__law_summary : FnScope ["_law_modulus_here", "_law_tree", "_law_seal_here", "_law_left", "_law_right", "_law_sums_here", "_law_k"] ["_law_modulus_here", "_law_tree"] (defScope s__law_summary) := ⟨rfl, rfl, rfl, by decide +kernel, rfl, by decide +kernel, by decide +kernel⟩
theorem zipW_at {xs ys : List Int} {m : Nat} {y : D} (h2 : ((List.zipWith (· + ·) xs ys).map D.int)[m]? = some y) : ∃ i j, xs[m]? = some i ∧ ys[m]? = some j ∧ y = .int (i + j) := by
  rw [List.getElem?_map, List.getElem?_zipWith] at h2
  cases e1 : xs[m]? with
  | none => rw [e1] at h2; cases h2
  | some i =>
    cases e2 : ys[m]? with
    | none => rw [e1, e2] at h2; cases h2
    | some j =>
      rw [e1, e2] at h2
      cases h2
      exact ⟨i, j, rfl, rfl, rfl⟩
theorem map_int_at {l : List Int} {m : Nat} {i : Int} (h : l[m]? = some i) : (l.map D.int)[m]? = some (.int i) := by rw [List.getElem?_map, h]; rfl
theorem pr__law_summary (F : DefAt K mg "_law_summary" s__law_summary) (FR : DefAt K mg "_law_row" s__law_row) (T : Txt K mg C eRow) (h__law_number : Pr P w K mg base 1 "_law_number" ["_law_name_here"] (spD K Rnum)) (h__law_numbers : Pr P w K mg base 2 "_law_numbers" ["_law_summary_here"] (spD K RsmNums))
    (h__law_seal : Pr P w K mg base 1 "_law_seal" ["_law_modulus_here", "_law_row_here"] (spD K Rlsl)) : ∀ n, Pr P w K mg base (3 + 2 * n) "_law_summary" ["_law_modulus_here", "_law_tree"] (spD K (Rlsum n))
  | 0 => pr_none F (fun _ _ _ _ _ _ us hl => match us, hl with | [_, _], _ => rfl) (fun ds d ⟨p, q, t, _, _, h, _⟩ => by have := t.dep_pos; omega) _
  | n + 1 => by
    have h__law_summary := pr__law_summary F FR T h__law_number h__law_numbers h__law_seal n
    have h__law_row := pr__law_row FR T h__law_summary h__law_number h__law_numbers
    have e5 : 3 + 2 * (n + 1) = (4 + 2 * n) + 1 := by omega
    rw [e5]
    refine pr_mk F sc__law_summary (fun _ _ _ _ _ _ us hl => match us, hl with | [_, _], _ => rfl) (fun ds d ⟨p, q, t, _, _, _, e, _⟩ => by rw [e]; rfl) fun f cdv A outer s0 H E hr => ⟨_, (pss_cons (ps_if (pt_cmpR op_eq (pe_ix (ix_K (K := K) rfl) (pv 1) (pe_int) (fun _ _ => rfl)) (pe_str) (nomark _)) pss_never pss_nil)
    (pss_cons (ps_set (i := 2) sc__law_summary.nd rfl (by first | exact .inl rfl | exact .inr rfl) (pe_callD h__law_seal (hr.mono (by omega)) rfl (pa_cons (pv 0) (pa_cons (pe_callD h__law_row (hr.mono (by omega)) rfl (pa_cons (pv 0) (pa_cons (pv 1) pa_nil))) pa_nil))))
    (pss_cons (ps_if (pt_cmpR op_eq (pe_ix (ix_K (K := K) rfl) (pv 1) (pe_int) (fun _ _ => rfl)) (pe_str) (nomark _)) (pss_one (ps_ret (pe_tup (pa_cons (pv 2) (pa_cons (pe_int) (pa_cons (pe_ix (ix_K (K := K) rfl) (pv 1) (pe_int) (fun _ _ => rfl)) (pa_cons (pe_ix (ix_K (K := K) rfl) (pv 1) (pe_int) (fun _ _ => rfl)) (pa_cons (pe_ix (ix_K (K := K) rfl) (pv 1) (pe_int) (fun _ _ => rfl)) pa_nil)))))))) pss_nil)
    (pss_cons (ps_set (i := 3) sc__law_summary.nd rfl (by first | exact .inl rfl | exact .inr rfl) (pe_callD h__law_summary (hr.mono (by omega)) rfl (pa_cons (pv 0) (pa_cons (pe_ix (ix_K (K := K) rfl) (pv 1) (pe_int) (fun _ _ => rfl)) pa_nil))))
    (pss_cons (ps_set (i := 4) sc__law_summary.nd rfl (by first | exact .inl rfl | exact .inr rfl) (pe_callD h__law_summary (hr.mono (by omega)) rfl (pa_cons (pv 0) (pa_cons (pe_ix (ix_K (K := K) rfl) (pv 1) (pe_int) (fun _ _ => rfl)) pa_nil))))
    (pss_cons (ps_set (i := 5) sc__law_summary.nd rfl (by first | exact .inl rfl | exact .inr rfl) (pe_callTy (call_tupK (K := K) rfl) (by rfl) T.tuple (by decide +kernel) (pa_cons (pe_lc (own := [("_law_k", 6)]) rfl sc__law_summary.nd (pi_range1 rfl T.range (pa_cons (pe_callB (call_lenK (K := K) rfl) (by rfl) T.len PySem.boot_len (pa_cons (pe_ix (ix_K (K := K) rfl) (pv 3) (pe_int) (fun _ _ => rfl)) pa_nil)) pa_nil)) (blkOk_by (by kernel_rfl)) (fun _ _ _ _ _ => (pg_name (i := 6) sc__law_summary.nd rfl (by first | exact .inl rfl | exact .inr rfl))) (fun _ _ _ _ _ => pts_nil) (fun _ _ _ _ _ => (pe_op (op_addK (K := K) rfl) (pe_ix (ix_K (K := K) rfl) (pe_ix (ix_K (K := K) rfl) (pv 3) (pe_int) (fun _ _ => rfl)) (pv 6) (fun _ _ => rfl)) (pe_ix (ix_K (K := K) rfl) (pe_ix (ix_K (K := K) rfl) (pv 4) (pe_int) (fun _ _ => rfl)) (pv 6) (fun _ _ => rfl))))) pa_nil)))
    (pss_one (ps_ret (pe_tup (pa_cons (pv 2) (pa_cons (pe_op (op_addK (K := K) rfl) (pe_ix (ix_K (K := K) rfl) (pv 3) (pe_int) (fun _ _ => rfl)) (pe_ix (ix_K (K := K) rfl) (pv 4) (pe_int) (fun _ _ => rfl))) (pa_cons (pv 5) (pa_cons (pe_ix (ix_K (K := K) rfl) (pv 3) (pe_int) (fun _ _ => rfl)) (pa_cons (pe_ix (ix_K (K := K) rfl) (pv 4) (pe_int) (fun _ _ => rfl)) pa_nil)))))))))))))), ?_⟩
    rintro ds d ⟨p, q, t, hp, ht, hd, rfl, rfl⟩
    have hrow := rowT_len (p := p) ht
    cases t with
    | lf l =>
      have er : encT (.lf l) = encL l := rfl
      rw [er]
      walk_at "if0"
      refine xs_seq (xs_set (d := .int (sealOf p (lfRow l))) (xe_call (xa_cons (by walk_at "x") (xa_cons (xe_call (by walk_at "x") ⟨p, q, .lf l, hp, ht, hd, rfl, rfl⟩) xa_nil)) ⟨p, _, hp, hrow, rfl, rfl⟩)) ?_
      walk_at "if1"
      walk_at "ret"
    | br a b =>
      have er : encT (.br a b) = .tup [.str "branch", encT a, encT b] := rfl
      rw [er]
      have ha := ht.l
      have hb := ht.r
      have da := dep_l hd
      have db := dep_r hd
      have sa := summ_ok p ha
      have sb := summ_ok p hb
      walk_at "if0"
      refine xs_seq (xs_set (d := .int (sealOf p (brRow (summ p a) (summ p b)))) (xe_call (xa_cons (by walk_at "x") (xa_cons (xe_call (by walk_at "x") ⟨p, q, .br a b, hp, ht, hd, rfl, rfl⟩) xa_nil)) ⟨p, _, hp, hrow, rfl, rfl⟩)) ?_
      walk_at "if0"
      refine xs_seq (xs_set (d := encS (summ p a)) (by walk_at "x")) ?_
      refine xs_seq (xs_set (d := encS (summ p b)) (by walk_at "x")) ?_
      have hla : ((summ p a).sums.map D.int).length = q := by rw [List.length_map, sa.ql]
      have hq := ha.q13
      refine xs_seq (xs_set (xe_cb (xa_cons (xe_lcx ((List.zipWith (· + ·) (summ p a).sums (summ p b).sums).map .int) ?_ (xi_range1 (by walk_at "x") (by rw [hla]; omega)) (by rw [rngD_len, hla]; omega) fun m d y h1 h2 => ?_) xa_nil) xc_tupL)) ?_
      · rw [rngD_len, List.length_map, List.length_zipWith, sa.ql, sb.ql, hla]
        omega
      · obtain ⟨hm, rfl⟩ := rngD_get0 h1
        obtain ⟨i, j, ei, ej, rfl⟩ := zipW_at h2
        exact xe_op (xe_op (by walk_at "x") (by walk_at "x") (xr_ixT (map_int_at ei))) (xe_op (by walk_at "x") (by walk_at "x") (xr_ixT (map_int_at ej))) xr_addI
      · walk_at "ret"
abbrev s__law_top : Stmt := top 71
theorem sc__law_top : FnScope ["_law_modulus_here", "_law_tree", "_law_summary_here"] ["_law_modulus_here", "_law_tree"] (defScope s__law_top) := ⟨rfl, rfl, rfl, by decide +kernel, rfl, by decide +kernel, by decide +kernel⟩
theorem pr__law_top (F : DefAt K mg "_law_top" s__law_top) (T : Txt K mg C eRow) {n m : Nat} (h__law_summary : Pr P w K mg base (3 + m) "_law_summary" ["_law_modulus_here", "_law_tree"] (spD K (Rlsum n))) (h__law_numbers : Pr P w K mg base 2 "_law_numbers" ["_law_summary_here"] (spD K RsmNums)) :
    Pr P w K mg base (4 + m) "_law_top" ["_law_modulus_here", "_law_tree"] (spD K (Rltop n)) := by
  have e5 : 4 + m = (3 + m) + 1 := by omega
  rw [e5]
  refine pr_mk F sc__law_top (fun _ _ _ _ _ _ us hl => match us, hl with | [_, _], _ => rfl) (fun ds d ⟨p, q, o, _, _, e, _⟩ => by rw [e]; rfl) fun f cdv A outer s0 H E hr => ⟨_, (pss_cons (ps_if (pt_cmpR op_isN (pv 1) pe_non (nomark _)) (pss_one (ps_ret (pe_tup (pa_cons (pe_int) pa_nil)))) pss_nil)
    (pss_cons (ps_set (i := 2) sc__law_top.nd rfl (by first | exact .inl rfl | exact .inr rfl) (pe_callD h__law_summary (hr.mono (by omega)) rfl (pa_cons (pv 0) (pa_cons (pv 1) pa_nil))))
    (pss_one (ps_ret (pe_op (op_addK (K := K) rfl) (pe_tup (pa_cons (pe_int) (pa_cons (pe_callB (call_lenK (K := K) rfl) (by rfl) T.len PySem.boot_len (pa_cons (pe_ix (ix_K (K := K) rfl) (pv 2) (pe_int) (fun _ _ => rfl)) pa_nil)) pa_nil))) (pe_callD h__law_numbers (hr.mono (by omega)) rfl (pa_cons (pv 2) pa_nil))))))), ?_⟩
  rintro ds d ⟨p, q, o, hp, ho, rfl, rfl⟩
  cases o with
  | none =>
    refine xs_ifs (b := true) (XT.to (by walk_at "x") (show D.isN (encTo none) = true from rfl)) (fun _ => xs_seqr ?_) fun h => by cases h
    walk_at "ret"
  | some t =>
    obtain ⟨ht, hd⟩ := ho t rfl
    have hs := summ_ok p ht
    have hl := smNums_len hs
    refine xs_ifs (b := false) (XT.to (by walk_at "x") (show D.isN (encTo (some t)) = false from encT_ne t)) (fun h => by cases h) fun _ => xs_nseq ?_
    refine xs_seq (xs_set (d := encS (summ p t)) (xe_call (by walk_at "x") ⟨p, q, t, hp, ht, hd, rfl, rfl⟩)) ?_
    show XS K _ _ (.rt (encI (topRow (summ p t))))
    rw [topRow_D]
    walk_at "ret"
abbrev s__law_root : Stmt := top 72
theorem sc__law_root : FnScope ["_law_modulus_here", "_law_tree"] ["_law_modulus_here", "_law_tree"] (defScope s__law_root) := ⟨rfl, rfl, rfl, by decide +kernel, rfl, by decide +kernel, by decide +kernel⟩
theorem pr__law_root (F : DefAt K mg "_law_root" s__law_root) (T : Txt K mg C eRow) {n m : Nat} (h__law_top : Pr P w K mg base (4 + m) "_law_top" ["_law_modulus_here", "_law_tree"] (spD K (Rltop n))) (h__law_seal : Pr P w K mg base 1 "_law_seal" ["_law_modulus_here", "_law_row_here"] (spD K Rlsl)) :
    Pr P w K mg base (5 + m) "_law_root" ["_law_modulus_here", "_law_tree"] (spD K (Rlroot n)) := by
  have e5 : 5 + m = (4 + m) + 1 := by omega
  rw [e5]
  refine pr_mk F sc__law_root (fun _ _ _ _ _ _ us hl => match us, hl with | [_, _], _ => rfl) (fun ds d ⟨p, q, o, _, _, e, _⟩ => by rw [e]; rfl) fun f cdv A outer s0 H E hr => ⟨_, (pss_one (ps_ret (pe_callD h__law_seal (hr.mono (by omega)) rfl (pa_cons (pv 0) (pa_cons (pe_callD h__law_top (hr.mono (by omega)) rfl (pa_cons (pv 0) (pa_cons (pv 1) pa_nil))) pa_nil))))), ?_⟩
  rintro ds d ⟨p, q, o, hp, ho, rfl, rfl⟩
  have hl := topRowO_len (p := p) ho
  rw [rootOf_eq]
  walk_at "ret"
end
end SG

namespace SG
open PySem L2
local macro_rules | `(tactic| walk_at "xR") => `(tactic| first
  | ((with_reducible show Rnum _ _); exact ⟨_, by assumption, rfl, rfl⟩)
  | ((with_reducible show Rbit _ _); exact ⟨_, _, by assumption, by first | assumption | decide | omega, rfl, rfl⟩)
  | ((with_reducible show Rpart _ _); exact ⟨_, _, by assumption, by assumption, rfl, rfl⟩)
  | ((with_reducible show Risn _ _); exact ⟨_, by assumption, rfl, rfl⟩)
  | ((with_reducible show Rleast _ _); exact ⟨_, _, by assumption, rfl, rfl⟩)
  | ((with_reducible show Rgreat _ _); exact ⟨_, _, by assumption, rfl, rfl⟩)
  | ((with_reducible show RlfRow _ _); exact ⟨_, _, by assumption, rfl, rfl⟩)
  | ((with_reducible show RsmNums _ _); exact ⟨_, _, by assumption, rfl, rfl⟩)
  | ((with_reducible show RbrRow _ _); exact ⟨_, _, _, by assumption, by assumption, rfl, rfl⟩)
  | ((with_reducible show RbrSm _ _ _); exact ⟨_, _, _, _, by assumption, by assumption, by assumption, rfl, rfl⟩)
  | ((with_reducible show Rworths _ _); exact ⟨_, by assumption, by assumption, rfl, rfl⟩)
  | ((with_reducible show Rnotes _ _); exact ⟨_, by assumption, by assumption, rfl, rfl⟩)
  | ((with_reducible show RisLeaf _ _); exact ⟨_, _, by assumption, rfl, rfl⟩)
  | ((with_reducible show RareSides _ _); exact ⟨_, _, _, by assumption, by assumption, rfl, rfl⟩)
  | ((with_reducible show RisIn _ _); exact ⟨_, _, _, _, by assumption, by assumption, rfl, rfl⟩)
  | ((with_reducible show Rsl _ _ _); exact ⟨_, _, by assumption, by first | assumption | omega, rfl, rfl⟩)
  | ((with_reducible show Rsumm _ _ _ _); exact ⟨_, _, _, by assumption, by assumption, by first | assumption | omega, rfl, rfl⟩)
  | ((with_reducible show Rtop _ _ _ _); exact ⟨_, _, _, by assumption, by assumption, rfl, rfl⟩)
  | ((with_reducible show Rroot _ _ _ _); exact ⟨_, _, _, by assumption, by assumption, rfl, rfl⟩)
  | ((with_reducible show Rkinds _ _ _); exact ⟨_, _, by assumption, by first | assumption | omega, rfl, rfl⟩)
  | ((with_reducible show Rvalid _ _ _ _); exact ⟨_, _, _, by assumption, by first | assumption | omega, rfl, rfl⟩)
  | ((with_reducible show Rorder _ _ _); exact ⟨_, _, by assumption, by first | assumption | omega, rfl, rfl⟩)
  | ((with_reducible show Rwf _ _ _ _); exact ⟨_, _, _, by assumption, rfl, rfl⟩)
  | ((with_reducible show RleafT _ _); exact ⟨_, _, _, by assumption, by assumption, rfl, rfl⟩)
  | ((with_reducible show RrangeT _ _); exact ⟨_, _, _, _, by assumption, by assumption, by assumption, rfl, rfl⟩)
  | ((with_reducible show RrankT _ _); exact ⟨_, _, _, by assumption, by assumption, rfl, rfl⟩)
  | ((with_reducible show RplaceT _ _); exact ⟨_, _, _, by assumption, rfl, rfl⟩)
  | ((with_reducible show RnextT _ _); exact ⟨_, _, _, by assumption, by assumption, rfl, rfl⟩)
  | ((with_reducible show Rtold _ _); exact ⟨_, _, _, by assumption, by assumption, by assumption, rfl, rfl⟩)
  | ((with_reducible show RsideQ _ _); exact ⟨_, _, _, _, by assumption, by assumption, by assumption, rfl, rfl⟩)
  | ((with_reducible show Rjoin _ _); exact ⟨_, _, _, _, _, by assumption, by assumption, by assumption, rfl, rfl⟩)
  | ((with_reducible show Rempty _ _); exact ⟨_, by assumption, rfl, rfl⟩)
  | ((with_reducible show Rask0 _ _ _ _); exact ⟨_, _, _, _, by assumption, by assumption, by assumption, by assumption, rfl, rfl⟩)
  | ((with_reducible show Rcell _ _); exact ⟨_, _, by assumption, by first | assumption | omega, rfl, rfl⟩)
  | ((with_reducible show Rname _ _); exact ⟨_, rfl, rfl⟩)
  | ((with_reducible show Rmod _ _); exact ⟨_, rfl, rfl⟩)
  | ((with_reducible show Rlsl _ _); exact ⟨_, _, by assumption, by first | assumption | omega, rfl, rfl⟩)
  | ((with_reducible show Rlrow _ _ _); exact ⟨_, _, _, by assumption, by assumption, by first | assumption | omega, rfl, rfl⟩)
  | ((with_reducible show Rlsum _ _ _); exact ⟨_, _, _, by assumption, by assumption, by first | assumption | omega, rfl, rfl⟩)
  | ((with_reducible show Rltop _ _ _); exact ⟨_, _, _, by assumption, by assumption, rfl, rfl⟩)
  | ((with_reducible show Rlroot _ _ _); exact ⟨_, _, _, by assumption, by assumption, rfl, rfl⟩)
  | ((with_reducible show Rbits _ _); exact ⟨_, by assumption, rfl, rfl⟩)
  | ((with_reducible show Rquest _ _); exact ⟨_, rfl, rfl⟩)
  | ((with_reducible show Rsums _ _); exact ⟨_, _, by assumption, by first | assumption | omega, rfl, rfl⟩)
  | skip)
local macro_rules | `(tactic| walk_at "sub") => `(tactic| repeat first | exact sub_nil | refine sub_none ?_ | refine sub_same ?_)
local macro_rules | `(tactic| walk_at "xl") => `(tactic| first | decide | (simp only [List.length_cons, List.length_nil, List.length_append, List.length_map]; omega) | skip)
local macro_rules | `(tactic| walk_at "xr") => `(tactic| first
  | with_reducible exact xr_addI | with_reducible exact xr_sub | with_reducible exact xr_eqS | with_reducible exact xr_eqI | with_reducible exact xr_isN | with_reducible exact xr_notN
  | with_reducible exact xr_ltI | with_reducible exact xr_leI | with_reducible exact xr_gtI | with_reducible exact xr_geI | with_reducible exact xr_neS | with_reducible exact xr_neI
  | with_reducible exact xr_ltS | with_reducible exact xr_leS | with_reducible exact xr_gtS | with_reducible exact xr_inC | with_reducible exact xr_xor
  | ((with_reducible apply xr_ixTi); (next => decide); (next => exact rfl))
  | ((with_reducible apply xr_ixLi); (next => decide); (next => exact rfl))
  | ((with_reducible apply xr_addT); walk_at "xl") | ((with_reducible apply xr_addL); walk_at "xl") | ((with_reducible apply xr_addS); walk_at "xl")
  | ((with_reducible apply xr_mulI); first | exact .inl ⟨by decide, by decide⟩ | exact .inr ⟨by decide, by decide⟩ | exact .inl ⟨by omega, by omega⟩ | exact .inr ⟨by omega, by omega⟩ | skip)
  | ((with_reducible apply xr_fdiv); first | exact ⟨by decide, by decide⟩ | exact ⟨by omega, by omega⟩ | skip) | ((with_reducible apply xr_mod); first | assumption | decide | omega | skip) | ((with_reducible apply xr_shr); first | decide | omega | skip)
  | skip)
local macro_rules | `(tactic| walk_at "xc") => `(tactic| first
  | with_reducible exact xc_lenT | with_reducible exact xc_lenL | with_reducible exact xc_lenQ | with_reducible exact xc_int | with_reducible exact xc_abs | with_reducible exact xc_listT | with_reducible exact xc_tupL
  | ((with_reducible apply xc_lenS); first | assumption | omega | skip) | with_reducible exact xc_sum | with_reducible exact xc_all | skip)
local macro_rules | `(tactic| walk_at "xe") => `(tactic| first
  | ((with_reducible apply xe_var); exact rfl) | with_reducible exact xe_int | with_reducible exact xe_str | with_reducible exact xe_non | with_reducible exact xe_bl
  | ((with_reducible apply xe_op) <;> walk_at "x") | ((with_reducible apply xe_tup) <;> walk_at "x") | ((with_reducible apply xe_cb) <;> walk_at "x")
  | ((with_reducible apply xe_call) <;> walk_at "x") | ((with_reducible apply xe_lst) <;> walk_at "x")
  | ((with_reducible apply xe_meth) <;> walk_at "x") | ((with_reducible apply xe_bits) <;> walk_at "x") | ((with_reducible apply xe_not) <;> walk_at "x")
  | ((with_reducible apply xe_and) <;> walk_at "x") | ((with_reducible apply xe_or) <;> walk_at "x") | ((with_reducible apply xe_chain) <;> walk_at "x")
  | ((with_reducible apply xe_slT) <;> walk_at "x") | ((with_reducible apply xe_fld) <;> walk_at "x") | skip)
local macro_rules | `(tactic| walk_at "x") => `(tactic| first
  | ((with_reducible show XE _ _ _ _); walk_at "xe") | ((with_reducible show XR _ _ _ _ _); walk_at "xr") | ((with_reducible show XC _ _ _ _); walk_at "xc")
  | with_reducible exact xa_nil | ((with_reducible apply xa_cons) <;> walk_at "x")
  | ((with_reducible apply xt_test) <;> walk_at "x") | ((with_reducible apply xt_B) <;> walk_at "x") | ((with_reducible apply xt_and) <;> walk_at "x") | ((with_reducible apply xt_or) <;> walk_at "x")
  | ((with_reducible apply xt_not) <;> walk_at "x") | with_reducible exact xt_yes
  | with_reducible exact xo_none | ((with_reducible apply xo_some) <;> walk_at "x")
  | ((with_reducible show List.length _ ≤ 100000); walk_at "xl") | ((with_reducible show (_ == _) = false); decide +kernel) | ((with_reducible show Cls _ _); assumption) | ((with_reducible show NoAttr _ _ _); assumption) | ((with_reducible intro _); walk_at "x") | walk_at "xR")
local macro_rules | `(tactic| walk_at "if0") => `(tactic| (refine xs_ifs (b := false) (XT.to (by walk_at "x") (by decide +kernel)) (fun h => (by cases h)) fun _ => xs_nseq ?_))
local macro_rules | `(tactic| walk_at "if1") => `(tactic| (refine xs_ifs (b := true) (XT.to (by walk_at "x") (by decide +kernel)) (fun _ => xs_seqr ?_) fun h => (by cases h)))
local macro_rules | `(tactic| walk_at "ret") => `(tactic| ((refine xs_ret' (by walk_at "x") ?_); (first | done | rfl | skip)))

section
variable {P : Program} {w : World} {K : PySem.W.Frag} {mg : Str → Option Value} {base : Heap} {C eRow : Addr} {k : Nat}
abbrev s__law_bits : Stmt := top 64
theorem sc__law_bits : FnScope ["_law_name_here", "_law_number_here", "_law_bits_here", "_law_k"] ["_law_name_here"] (defScope s__law_bits) := ⟨rfl, rfl, rfl, by decide +kernel, rfl, by decide +kernel, by decide +kernel⟩
theorem pr__law_bits (F : DefAt K mg "_law_bits" s__law_bits) (T : Txt K mg C eRow) (h__law_number : Pr P w K mg base 1 "_law_number" ["_law_name_here"] (spD K Rnum)) : Pr P w K mg base 2 "_law_bits" ["_law_name_here"] (spD K Rbits) := by
  refine pr_mk F sc__law_bits (fun _ _ _ _ _ _ us hl => match us, hl with | [_], _ => rfl) (fun ds d ⟨s, _, e, _⟩ => by rw [e]; rfl) fun f cdv A outer s0 H E hr => ⟨_, (pss_cons (ps_set (i := 1) sc__law_bits.nd rfl (by first | exact .inl rfl | exact .inr rfl) (pe_callD h__law_number (hr.mono (by omega)) rfl (pa_cons (pv 0) pa_nil)))
    (pss_cons (ps_set (i := 2) sc__law_bits.nd rfl (by first | exact .inl rfl | exact .inr rfl) (pe_lst pa_nil))
    (pss_cons (ps_for PassesOwn.never rfl (pi_range1 rfl T.range (pa_cons (pe_int) pa_nil)) (pg_name (i := 3) sc__law_bits.nd rfl (by first | exact .inl rfl | exact .inr rfl)) (pss_cons (ps_expr (pe_appK (K := K) rfl (pe_bm PySem.F.plainAttrs_list PySem.F.slot_list_append PySem.F.type_list_append mt_append (pv 2) (pa_cons (pe_op op_modN (pe_callTy call_int1 (by rfl) T.int (by decide +kernel) (pa_cons (pv 1) pa_nil)) (pe_int)) pa_nil))))
    (pss_one (ps_set (i := 1) sc__law_bits.nd rfl (by first | exact .inl rfl | exact .inr rfl) (pe_op op_fdivN (pv 1) (pe_int))))))
    (pss_one (ps_ret (pe_lc (own := [("_law_k", 3)]) rfl sc__law_bits.nd (pi_range1 rfl T.range (pa_cons (pe_int) pa_nil)) (blkOk_by (by kernel_rfl)) (fun _ _ _ _ _ => (pg_name (i := 3) sc__law_bits.nd rfl (by first | exact .inl rfl | exact .inr rfl))) (fun _ _ _ _ _ => pts_nil) (fun _ _ _ _ _ => (pe_ix (ix_K (K := K) rfl) (pv 2) (pe_op op_sub (pe_int) (pv 3)) (fun _ _ => rfl))))))))), ?_⟩
  rintro ds d ⟨s, hs, rfl, rfl⟩
  refine xs_seq (xs_set (by walk_at "x")) ?_
  refine xs_grow (fun n => [some (.str s), some (.int (hv s n)), none, none]) (fun n => (List.range n).map fun k : Nat => .int ((hv s k).fmod 2)) rfl (N := 48) (by decide) (by decide) ⟨by decide, by decide⟩ (by show 2 < 4; decide) (by walk_at "x") (by walk_at "sub") (fun n hn => ?_) ?_
  · refine ⟨.int ((hv s n).fmod 2), .int ((hv s n).fdiv 2), ?_, by walk_at "x", by walk_at "x", by walk_at "sub"⟩
    rw [List.range_succ, List.map_append]
    rfl
  · refine xs_ret' (xe_lcx ((List.range 48).map fun k : Nat => .int (bitAt s (k : Int))) ?_ (xi_range1 (by walk_at "x") (by decide)) (by rw [rngD_len]; decide) fun m d y h1 h2 => ?_) rfl
    · rw [rngD_len, List.length_map, List.length_range]
      rfl
    · obtain ⟨hm, rfl⟩ := rngD_get0 h1
      have hm48 : m < 48 := hm
      rw [List.getElem?_map, List.getElem?_range hm48] at h2
      cases h2
      refine xe_op (by walk_at "x") (xe_op xe_int (by walk_at "x") xr_sub) (xr_ixLi (by omega) ?_)
      have e : ((47 : Int) - (m : Int)).toNat = 47 - m := by omega
      rw [e, List.getElem?_map, List.getElem?_range (by show 47 - m < 48; omega)]
      show some (D.int ((hv s (47 - m)).fmod 2)) = some (D.int (bitAt s (m : Int)))
      have e2 : (48 - 1 - (m : Int)).toNat = 47 - m := by omega
      unfold bitAt
      rw [hv_eq, e2]
abbrev s__law_split : Stmt := top 74
theorem sc__law_split : FnScope ["_law_rows", "_law_place", "_law_k", "_law_left", "_law_row_here", "_law_right"] ["_law_rows", "_law_place"] (defScope s__law_split) := ⟨rfl, rfl, rfl, by decide +kernel, rfl, by decide +kernel, by decide +kernel⟩
theorem split_nil : ∀ n, split n [] = none
  | 0 => rfl
  | n + 1 => (show split (n + 1) [] = split n [] from rfl).trans (split_nil n)
theorem bits_at (s : Str) {k : Int} (h0 : 0 ≤ k) (h1 : k < 48) : ((List.range 48).map fun k : Nat => D.int (bitAt s (k : Int)))[k.toNat]? = some (.int (bitAt s k)) := by
  rw [List.getElem?_map, List.getElem?_range (by omega)]
  show some (D.int (bitAt s ((k.toNat : Nat) : Int))) = _
  rw [Int.toNat_of_nonneg h0]
theorem pr__law_split (F : DefAt K mg "_law_split" s__law_split) (T : Txt K mg C eRow) : ∀ m, Pr P w K mg base m "_law_split" ["_law_rows", "_law_place"] (spD K (Rsplit m))
  | 0 => pr_none F (fun _ _ _ _ _ _ us hl => match us, hl with | [_, _], _ => rfl) (fun ds d ⟨q, ls, n, t, _, h, h', _⟩ => by omega) _
  | m + 1 => by
    have h__law_split := pr__law_split F T m
    refine pr_mk F sc__law_split (fun _ _ _ _ _ _ us hl => match us, hl with | [_, _], _ => rfl) (fun ds d ⟨q, ls, n, t, _, _, _, _, _, _, e, _⟩ => by rw [e]; rfl) fun f cdv A outer s0 H E hr => ⟨_, (pss_cons (ps_if (pt_cmpR op_eq (pe_callB (call_lenK (K := K) rfl) (by rfl) T.len PySem.boot_len (pa_cons (pv 0) pa_nil)) (pe_int) (nomark _)) (pss_one (ps_ret (pe_ix (ix_K (K := K) rfl) (pe_ix (ix_K (K := K) rfl) (pv 0) (pe_int) (fun _ _ => rfl)) (pe_int) (fun _ _ => rfl)))) pss_nil)
    (pss_cons (ps_for PassesOwn.never rfl (pi_range2 rfl T.range (pa_cons (pv 1) (pa_cons (pe_int) pa_nil))) (pg_name (i := 2) sc__law_split.nd rfl (by first | exact .inl rfl | exact .inr rfl)) (pss_cons (ps_setLc (i := 3) (own := [("_law_row_here", 4)]) rfl sc__law_split.nd rfl rfl (sw_true rfl rfl rfl (by decide +kernel)) (pi_listK (K := K) rfl (pv 0)) (blkOk_by (by kernel_rfl)) (fun _ _ _ _ _ => (pg_name (i := 4) sc__law_split.nd rfl (by first | exact .inl rfl | exact .inr rfl))) (fun _ _ _ _ _ => pts_one (pt_cmpR op_eq (pe_ix (ix_K (K := K) rfl) (pe_ix (ix_K (K := K) rfl) (pv 4) (pe_int) (fun _ _ => rfl)) (pv 2) (fun _ _ => rfl)) (pe_int) (nomark _))) (fun _ _ _ _ _ => (pv 4)))
    (pss_one (ps_if (PW.pt (pw_and (pt_cmpR op_gtU (pe_callB (call_lenK (K := K) rfl) (by rfl) T.len PySem.boot_len (pa_cons (pv 3) pa_nil)) (pe_int) (nomark _)) (pw_and1 (pt_cmpR op_ltU (pe_callB (call_lenK (K := K) rfl) (by rfl) T.len PySem.boot_len (pa_cons (pv 3) pa_nil)) (pe_callB (call_lenK (K := K) rfl) (by rfl) T.len PySem.boot_len (pa_cons (pv 0) pa_nil)) (nomark _))))) (pss_cons (ps_setLc (i := 5) (own := [("_law_row_here", 4)]) rfl sc__law_split.nd rfl rfl (sw_true rfl rfl rfl (by decide +kernel)) (pi_listK (K := K) rfl (pv 0)) (blkOk_by (by kernel_rfl)) (fun _ _ _ _ _ => (pg_name (i := 4) sc__law_split.nd rfl (by first | exact .inl rfl | exact .inr rfl))) (fun _ _ _ _ _ => pts_one (pt_cmpR op_eq (pe_ix (ix_K (K := K) rfl) (pe_ix (ix_K (K := K) rfl) (pv 4) (pe_int) (fun _ _ => rfl)) (pv 2) (fun _ _ => rfl)) (pe_int) (nomark _))) (fun _ _ _ _ _ => (pv 4)))
    (pss_one (ps_ret (pe_tup (pa_cons (pe_str) (pa_cons (pe_callD h__law_split (hr.mono (by omega)) rfl (pa_cons (pv 3) (pa_cons (pe_op (op_addK (K := K) rfl) (pv 2) (pe_int)) pa_nil))) (pa_cons (pe_callD h__law_split (hr.mono (by omega)) rfl (pa_cons (pv 5) (pa_cons (pe_op (op_addK (K := K) rfl) (pv 2) (pe_int)) pa_nil))) pa_nil))))))) pss_nil))))
    (pss_one (ps_ret (pe_non))))), ?_⟩
    rintro ds d ⟨q, ls, n, t, hok, hpos, hle, hm, hn, hs, rfl, rfl⟩
    have hll : (ls.map encRow).length = ls.length := List.length_map _
    by_cases c1 : ls.length = 1
    · refine xs_ifs (b := true) (XT.to (by walk_at "x") (show decide ((((ls.map encRow).length : Nat) : Int) = 1) = true from decide_eq_true (by omega))) (fun _ => xs_seqr ?_) fun h => by cases h
      obtain ⟨l, rfl⟩ : ∃ l, ls = [l] := List.length_eq_one_iff.mp c1
      rw [split_one] at hs
      cases hs
      walk_at "ret"
    · refine xs_ifs (b := false) (XT.to (by walk_at "x") (show decide ((((ls.map encRow).length : Nat) : Int) = 1) = false from decide_eq_false (by omega))) (fun h => by cases h) fun _ => xs_nseq ?_
      obtain ⟨i, hi, h1, h2, x, y, rfl, ex, ey⟩ := split_find c1 hs
      have hz : ls.length ≤ 100000 := by omega
      have bit : ∀ (κ : Int), 0 ≤ κ → κ < 48 → ∀ l : Lf, XE K (tOp (rIx K) (tOp (rIx K) (tVar 4) (tC (.int 1))) (tVar 2)) [some (.lst (ls.map encRow)), some (.int (48 - (n : Int))), some (.int κ), none, some (encRow l), none] (.int (bitAt l.nm κ)) := fun κ g0 g1 l =>
        xe_op (by walk_at "x") (xe_var rfl) (xr_ixLi g0 (bits_at l.nm g0 g1))
      have left : ∀ (κ : Int), 0 ≤ κ → κ < 48 → XE K (tLc (iList K (tVar 0)) (gName 4) (tTest (tOp rEq (tOp (rIx K) (tOp (rIx K) (tVar 4) (tC (.int 1))) (tVar 2)) (tC (.int 0)))) (tVar 4) [4]) [some (.lst (ls.map encRow)), some (.int (48 - (n : Int))), some (.int κ), none, none, none] (.lst ((ls.filter (p0 κ)).map encRow)) := fun κ g0 g1 =>
        xe_filter encRow encRow (p0 κ) (xi_list (xe_var rfl)) hz fun l _ => ⟨xt_test (xe_op (bit κ g0 g1 l) xe_int xr_eqI), fun _ => xe_var rfl⟩
      refine xs_seqr (xs_for_rt (xi_range2 (by walk_at "x") (by omega)) (fun _ => [some (.lst (ls.map encRow)), some (.int (48 - (n : Int))), none, none, none, none]) i (by rw [rngD_len]; omega) (by walk_at "sub") (fun j d hj hd => ?_) (fun d hd => ?_))
      · obtain ⟨_, rfl⟩ := rngD_get hd
        refine ⟨_, _, xg_name, xs_seq (xs_set (left (48 - (n : Int) + (j : Int)) (by omega) (by omega))) (xs_if (b := false) (XT.to (by walk_at "x") ((splits_eq _ _).trans (h1 j hj))) (fun h => by cases h) fun _ => xs_next), by walk_at "sub"⟩
      · obtain ⟨_, rfl⟩ := rngD_get hd
        refine ⟨_, xg_name, xs_seq (xs_set (left (48 - (n : Int) + (i : Int)) (by omega) (by omega))) (xs_if (b := true) (XT.to (by walk_at "x") ((splits_eq _ _).trans h2)) (fun _ => ?_) fun h => by cases h)⟩
        generalize eκ : 48 - (n : Int) + (i : Int) = κ at *
        have g0 : 0 ≤ κ := by omega
        have g1 : κ < 48 := by omega
        have bit2 : ∀ l : Lf, XE K (tOp (rIx K) (tOp (rIx K) (tVar 4) (tC (.int 1))) (tVar 2)) [some (.lst (ls.map encRow)), some (.int (48 - (n : Int))), some (.int κ), some (.lst ((ls.filter (p0 κ)).map encRow)), some (encRow l), none] (.int (bitAt l.nm κ)) := fun l =>
          xe_op (by walk_at "x") (xe_var rfl) (xr_ixLi g0 (bits_at l.nm g0 g1))
        refine xs_seq (xs_set (xe_filter encRow encRow (p1 κ) (xi_list (xe_var rfl)) hz fun l _ => ⟨xt_test (xe_op (bit2 l) xe_int xr_eqI), fun _ => xe_var rfl⟩)) ?_
        have e1 : κ + 1 = 48 - ((n - i - 1 : Nat) : Int) := by omega
        have h2' := h2
        unfold splits at h2'
        rw [Bool.and_eq_true] at h2'
        have a1 := of_decide_eq_true h2'.1
        have a2 := of_decide_eq_true h2'.2
        have a3 := filter_two (p0 κ) (p1 κ) (p01 κ) ls
        have a4 : 0 < (ls.filter (p1 κ)).length := by
          cases hfl : ls.filter (p1 κ) with
          | nil => rw [hfl, split_nil] at ey; cases ey
          | cons _ _ => exact Nat.succ_pos _
        refine xs_ret (xe_tup (xa_cons xe_str (xa_cons (xe_call (xa_cons (xe_var rfl) (xa_cons (by walk_at "x") xa_nil)) ⟨q, ls.filter (p0 κ), n - i - 1, x, fun l hl => hok l ((List.mem_filter.mp hl).1), a1, by omega, by omega, by omega, ex, by rw [e1], rfl⟩)
          (xa_cons (xe_call (xa_cons (xe_var rfl) (xa_cons (by walk_at "x") xa_nil)) ⟨q, ls.filter (p1 κ), n - i - 1, y, fun l hl => hok l ((List.mem_filter.mp hl).1), a4, by omega, by omega, by omega, ey, by rw [e1], rfl⟩) xa_nil))) (by show 3 ≤ 100000; decide))
abbrev s__law_built : Stmt := top 73
theorem sc__law_built : FnScope ["_law_leaves_here", "_law_rows", "_law_leaf"] ["_law_leaves_here"] (defScope s__law_built) := ⟨rfl, rfl, rfl, by decide +kernel, rfl, by decide +kernel, by decide +kernel⟩
theorem pr__law_built (F : DefAt K mg "_law_built" s__law_built) (T : Txt K mg C eRow) (h__law_number : Pr P w K mg base 1 "_law_number" ["_law_name_here"] (spD K Rnum)) (h__law_bits : Pr P w K mg base 2 "_law_bits" ["_law_name_here"] (spD K Rbits)) (h__law_split : Pr P w K mg base 20 "_law_split" ["_law_rows", "_law_place"] (spD K (Rsplit 20))) :
    Pr P w K mg base 21 "_law_built" ["_law_leaves_here"] (spD K Rbuilt) := by
  refine pr_mk F sc__law_built (fun _ _ _ _ _ _ us hl => match us, hl with | [_], _ => rfl) (fun ds d ⟨q, ls, o, _, _, _, e, _⟩ => by rw [e]; rfl) fun f cdv A outer s0 H E hr => ⟨_, (pss_cons (ps_if (pt_cmpR op_eq (pe_callB (call_lenK (K := K) rfl) (by rfl) T.len PySem.boot_len (pa_cons (pv 0) pa_nil)) (pe_int) (nomark _)) (pss_one (ps_ret (pe_non))) pss_nil)
    (pss_cons (ps_setLc (i := 1) (own := [("_law_leaf", 2)]) rfl sc__law_built.nd rfl rfl (sw_true rfl rfl rfl (by decide +kernel)) (pi_listK (K := K) rfl (pv 0)) (blkOk_by (by kernel_rfl)) (fun _ _ _ _ _ => (pg_name (i := 2) sc__law_built.nd rfl (by first | exact .inl rfl | exact .inr rfl))) (fun _ _ _ _ _ => pts_nil) (fun _ _ _ _ _ => (pe_tup (pa_cons (pe_callD h__law_number (hr.mono (by omega)) rfl (pa_cons (pe_ix (ix_K (K := K) rfl) (pv 2) (pe_int) (fun _ _ => rfl)) pa_nil)) (pa_cons (pe_callD h__law_bits (hr.mono (by omega)) rfl (pa_cons (pe_ix (ix_K (K := K) rfl) (pv 2) (pe_int) (fun _ _ => rfl)) pa_nil)) (pa_cons (pv 2) pa_nil))))))
    (pss_one (ps_ret (pe_callD h__law_split (hr.mono (by omega)) rfl (pa_cons (pv 1) (pa_cons (pe_int) pa_nil))))))), ?_⟩
  rintro ds d ⟨q, ls, o, hok, hl, hb, rfl, rfl⟩
  have hll : (ls.map encL).length = ls.length := List.length_map _
  rcases hb with ⟨rfl, rfl⟩ | ⟨t, hne, hs, rfl⟩
  · refine xs_ifs (b := true) (XT.to (by walk_at "x") (show decide ((((([] : List Lf).map encL).length : Nat) : Int) = 0) = true from rfl)) (fun _ => xs_seqr ?_) fun h => by cases h
    walk_at "ret"
  · have hp : 0 < ls.length := List.length_pos_iff.mpr hne
    refine xs_ifs (b := false) (XT.to (by walk_at "x") (show decide ((((ls.map encL).length : Nat) : Int) = 0) = false from decide_eq_false (by omega))) (fun h => by cases h) fun _ => xs_nseq ?_
    refine xs_seq (xs_set (xe_mapl encL encRow (xi_list (xe_var rfl)) (by omega) fun l hl => ?_)) ?_
    · have hn := (hok l hl).nm
      exact xe_tup (xa_cons (by walk_at "x") (xa_cons (by walk_at "x") (xa_cons (xe_var rfl) xa_nil))) (by show 3 ≤ 100000; decide)
    · exact xs_ret (xe_call (xa_cons (xe_var rfl) (xa_cons xe_int xa_nil)) ⟨q, ls, 48, t, hok, hp, hl, by decide, by decide, hs, rfl, rfl⟩)
abbrev s__law_question : Stmt := top 75
theorem sc__law_question : FnScope ["_law_number_here", "_law_kind", "_law_one", "_law_two"] ["_law_number_here"] (defScope s__law_question) := ⟨rfl, rfl, rfl, by decide +kernel, rfl, by decide +kernel, by decide +kernel⟩
theorem sl3 {i : Int} (h0 : 0 ≤ i) (h1 : i < 4) (a b c : Str) : (([D.str a, D.str b, D.str c].drop (HT.sIx 3 0 none)).take (HT.sIx 3 3 (some i) - HT.sIx 3 0 none)) = ([a, b, c].take i.toNat).map .str := by
  have e : i = ((i.toNat : Nat) : Int) := by omega
  rw [e, HT.sIx_nat, HT.sIx_none]
  have hi : i.toNat = 0 ∨ i.toNat = 1 ∨ i.toNat = 2 ∨ i.toNat = 3 := by omega
  rcases hi with g | g | g | g <;> (rw [g]; rfl)
theorem pr__law_question (F : DefAt K mg "_law_question" s__law_question) (T : Txt K mg C eRow) (h__law_name : Pr P w K mg base 1 "_law_name" ["_law_number_here"] (spD K Rname)) : Pr P w K mg base 2 "_law_question" ["_law_number_here"] (spD K Rquest) := by
  refine pr_mk F sc__law_question (fun _ _ _ _ _ _ us hl => match us, hl with | [_], _ => rfl) (fun ds d ⟨n, e, _⟩ => by rw [e]; rfl) fun f cdv A outer s0 H E hr => ⟨_, (pss_cons (ps_set (i := 1) sc__law_question.nd rfl (by first | exact .inl rfl | exact .inr rfl) (pe_op op_modN (pv 0) (pe_int)))
    (pss_cons (ps_set (i := 2) sc__law_question.nd rfl (by first | exact .inl rfl | exact .inr rfl) (pe_callD h__law_name (hr.mono (by omega)) rfl (pa_cons (pe_op op_modN (pe_op op_fdivN (pv 0) (pe_int)) (pe_int)) pa_nil)))
    (pss_cons (ps_set (i := 3) sc__law_question.nd rfl (by first | exact .inl rfl | exact .inr rfl) (pe_callD h__law_name (hr.mono (by omega)) rfl (pa_cons (pe_op op_modN (pe_op op_fdivN (pv 0) (pe_int)) (pe_int)) pa_nil)))
    (pss_cons (ps_if (pt_cmpR op_eq (pv 1) (pe_int) (nomark _)) (pss_one (ps_ret (pe_tup (pa_cons (pe_str) (pa_cons (pv 2) pa_nil))))) pss_nil)
    (pss_cons (ps_if (pt_cmpR op_eq (pv 1) (pe_int) (nomark _)) (pss_one (ps_ret (pe_tup (pa_cons (pe_str) (pa_cons (pe_slice (sl_K (K := K) rfl) (pe_tup (pa_cons (pv 2) (pa_cons (pv 3) (pa_cons (pv 2) pa_nil)))) po_none (po_some (pe_op op_modN (pe_op op_fdivN (pv 0) (pe_int)) (pe_int)))) pa_nil))))) pss_nil)
    (pss_cons (ps_if (pt_cmpR op_eq (pv 1) (pe_int) (nomark _)) (pss_one (ps_ret (pe_ix (ix_K (K := K) rfl) (pe_lst (pa_cons (pe_tup (pa_cons (pe_str) pa_nil)) (pa_cons (pe_tup (pa_cons (pe_str) pa_nil)) pa_nil))) (pe_op op_modN (pe_op op_fdivN (pv 0) (pe_int)) (pe_int)) (fun _ _ => rfl)))) pss_nil)
    (pss_cons (ps_if (pt_cmpR op_ltU (pv 1) (pe_int) (nomark _)) (pss_one (ps_ret (pe_tup (pa_cons (pe_str) (pa_cons (pv 2) (pa_cons (pv 3) pa_nil)))))) pss_nil)
    (pss_cons (ps_if (pt_cmpR op_eq (pv 1) (pe_int) (nomark _)) (pss_one (ps_ret (pe_tup (pa_cons (pe_str) (pa_cons (pv 2) pa_nil))))) pss_nil)
    (pss_cons (ps_if (pt_cmpR op_eq (pv 1) (pe_int) (nomark _)) (pss_one (ps_ret (pe_tup (pa_cons (pe_str) (pa_cons (pe_op op_modN (pe_op op_fdivN (pv 0) (pe_int)) (pe_int)) pa_nil))))) pss_nil)
    (pss_one (ps_ret (pe_tup (pa_cons (pe_str) (pa_cons (pv 2) pa_nil)))))))))))))), ?_⟩
  rintro ds d ⟨n, rfl, rfl⟩
  unfold lawQ
  refine xs_seq (xs_set (by walk_at "x")) ?_
  refine xs_seq (xs_set (by walk_at "x")) ?_
  refine xs_seq (xs_set (by walk_at "x")) ?_
  generalize lawName ((n.fdiv 8).fmod 120) = a
  generalize lawName ((n.fdiv 960).fmod 120) = b
  refine xs_ifs (by walk_at "x") (fun h => xs_seqr ?_) (fun h => xs_nseq ?_)
  · rw [if_pos (of_decide_eq_true h)]
    walk_at "ret"
  rw [if_neg (of_decide_eq_false h)]
  refine xs_ifs (by walk_at "x") (fun h => xs_seqr ?_) (fun h => xs_nseq ?_)
  · rw [if_pos (of_decide_eq_true h)]
    have r := fmod_rng (n.fdiv 115200) (m := 4) (by decide)
    have sl : XE K (tSl (rSlA K) (tTup (tCons (tVar 2) (tCons (tVar 3) (tCons (tVar 2) tNil)))) tNoPart (tPart (tOp (rI (fun x j => j ≠ 0) fun i j => V.int (i.fmod j)) (tOp (rI CDivN fun i j => V.int (i.fdiv j)) (tVar 0) (tC (.int 115200))) (tC (.int 4))))) [some (.int n), some (.int (n.fmod 8)), some (.str a), some (.str b)] (.tup (([a, b, a].take ((n.fdiv 115200).fmod 4).toNat).map .str)) := by
      have z := xe_slT (K := K) (ρ := [some (.int n), some (.int (n.fmod 8)), some (.str a), some (.str b)]) (ds := [.str a, .str b, .str a]) (xe_tup (xa_cons (xe_var (n := 2) rfl) (xa_cons (xe_var (n := 3) rfl) (xa_cons (xe_var (n := 2) rfl) xa_nil))) (by show 3 ≤ 100000; decide)) xo_none
        (xo_some (xe_op (xe_op (xe_var (n := 0) rfl) (xe_int (i := 115200)) (xr_fdiv ⟨by decide, by decide⟩)) (xe_int (i := 4)) (xr_mod (by decide))))
      exact z.to (congrArg D.tup (sl3 r.1 r.2 a b a))
    exact xs_ret (xe_tup (xa_cons xe_str (xa_cons sl xa_nil)) (by show 2 ≤ 100000; decide))
  rw [if_neg (of_decide_eq_false h)]
  refine xs_ifs (by walk_at "x") (fun h => xs_seqr ?_) (fun h => xs_nseq ?_)
  · rw [if_pos (of_decide_eq_true h)]
    have r := fmod_rng (n.fdiv 8) (m := 2) (by decide)
    by_cases c : (n.fdiv 8).fmod 2 = 0
    · rw [if_pos c]
      have e : ((n.fdiv 8).fmod 2).toNat = 0 := by omega
      exact xs_ret (xe_op (by walk_at "x") (by walk_at "x") (xr_ixLi r.1 (by rw [e]; rfl)))
    · rw [if_neg c]
      have e : ((n.fdiv 8).fmod 2).toNat = 1 := by omega
      exact xs_ret (xe_op (by walk_at "x") (by walk_at "x") (xr_ixLi r.1 (by rw [e]; rfl)))
  rw [if_neg (of_decide_eq_false h)]
  refine xs_ifs (by walk_at "x") (fun h => xs_seqr ?_) (fun h => xs_nseq ?_)
  · rw [if_pos (of_decide_eq_true h)]
    walk_at "ret"
  rw [if_neg (of_decide_eq_false h)]
  refine xs_ifs (by walk_at "x") (fun h => xs_seqr ?_) (fun h => xs_nseq ?_)
  · rw [if_pos (of_decide_eq_true h)]
    walk_at "ret"
  rw [if_neg (of_decide_eq_false h)]
  refine xs_ifs (by walk_at "x") (fun h => xs_seqr ?_) (fun h => xs_nseq ?_)
  · rw [if_pos (of_decide_eq_true h)]
    walk_at "ret"
  rw [if_neg (of_decide_eq_false h)]
  walk_at "ret"
abbrev s__law_sums : Stmt := top 76
theorem sc__law_sums : FnScope ["_law_leaves_here", "_law_leaf", "_law_k"] ["_law_leaves_here"] (defScope s__law_sums) := ⟨rfl, rfl, rfl, by decide +kernel, rfl, by decide +kernel, by decide +kernel⟩
theorem pr__law_sums (F : DefAt K mg "_law_sums" s__law_sums) (T : Txt K mg C eRow) : Pr P w K mg base 1 "_law_sums" ["_law_leaves_here"] (spD K Rsums) := by
  refine pr_mk F sc__law_sums (fun _ _ _ _ _ _ us hl => match us, hl with | [_], _ => rfl) (fun ds d ⟨q, ls, _, _, e, _⟩ => by rw [e]; rfl) fun f cdv A outer s0 H E hr => ⟨_, (pss_cons (ps_if (pt_cmpR op_eq (pe_callB (call_lenK (K := K) rfl) (by rfl) T.len PySem.boot_len (pa_cons (pv 0) pa_nil)) (pe_int) (nomark _)) (pss_one (ps_ret (pe_non))) pss_nil)
    (pss_one (ps_ret (pe_callTy (call_tupK (K := K) rfl) (by rfl) T.tuple (by decide +kernel) (pa_cons (pe_lc (own := [("_law_k", 2)]) rfl sc__law_sums.nd (pi_range1 rfl T.range (pa_cons (pe_callB (call_lenK (K := K) rfl) (by rfl) T.len PySem.boot_len (pa_cons (pe_ix (ix_K (K := K) rfl) (pe_ix (ix_K (K := K) rfl) (pv 0) (pe_int) (fun _ _ => rfl)) (pe_int) (fun _ _ => rfl)) pa_nil)) pa_nil)) (blkOk_by (by kernel_rfl)) (fun _ _ _ _ _ => (pg_name (i := 2) sc__law_sums.nd rfl (by first | exact .inl rfl | exact .inr rfl))) (fun _ _ _ _ _ => pts_nil) (fun _ _ _ _ _ => (pe_callB (call_sumK (K := K) rfl rfl) (by rfl) T.sum (by decide +kernel) (pa_cons (pe_lc (own := [("_law_leaf", 1)]) rfl sc__law_sums.nd (pi_listK (K := K) rfl (pv 0)) (blkOk_by (by kernel_rfl)) (fun _ _ _ _ _ => (pg_name (i := 1) sc__law_sums.nd rfl (by first | exact .inl rfl | exact .inr rfl))) (fun _ _ _ _ _ => pts_nil) (fun _ _ _ _ _ => (pe_ix (ix_K (K := K) rfl) (pe_ix (ix_K (K := K) rfl) (pv 1) (pe_int) (fun _ _ => rfl)) (pv 2) (fun _ _ => rfl)))) pa_nil)))) pa_nil))))), ?_⟩
  rintro ds d ⟨q, ls, hok, hl, rfl, rfl⟩
  have hll : (ls.map encL).length = ls.length := List.length_map _
  cases ls with
  | nil =>
    refine xs_ifs (b := true) (XT.to (by walk_at "x") (show decide ((((([] : List Lf).map encL).length : Nat) : Int) = 0) = true from rfl)) (fun _ => xs_seqr ?_) fun h => by cases h
    walk_at "ret"
  | cons l r =>
    refine xs_ifs (b := false) (XT.to (by walk_at "x") (show decide (((((l :: r).map encL).length : Nat) : Int) = 0) = false from decide_eq_false (by simp only [List.length_cons] at hll; omega))) (fun h => by cases h) fun _ => xs_nseq ?_
    have h0 := hok l (by simp)
    have e0 : (l.ws.map D.int).length = q := by rw [List.length_map, h0.wl]
    have hq := h0.q3
    show XS K _ _ (.rt (.tup (((List.range q).map (sumAt (l :: r))).map .int)))
    refine xs_ret (xe_cb (xa_cons (xe_lcx (((List.range q).map (sumAt (l :: r))).map .int) ?_ (xi_range1 (by walk_at "x") (by rw [e0]; omega)) (by rw [rngD_len, e0]; omega) fun m d y h1 h2 => ?_) xa_nil) xc_tupL)
    · rw [rngD_len, e0, List.length_map, List.length_map, List.length_range]
      omega
    · obtain ⟨hm, rfl⟩ := rngD_get0 h1
      rw [e0] at hm
      have hm2 : m < q := by omega
      rw [List.getElem?_map, List.getElem?_map, List.getElem?_range hm2] at h2
      cases h2
      have e1 : ((l :: r).map fun x => (x.ws[m]?).getD 0).map D.int = (l :: r).map fun x => D.int ((x.ws[m]?).getD 0) := by rw [List.map_map]; rfl
      have z := xc_sum (K := K) (ns := (l :: r).map fun x => (x.ws[m]?).getD 0)
      rw [e1] at z
      refine xe_cb (xa_cons (xe_mapl encL (fun x => D.int ((x.ws[m]?).getD 0)) (xi_list (xe_var rfl)) (by omega) fun x hx => ?_) xa_nil) z
      have hw : m < x.ws.length := by rw [(hok x hx).wl]; exact hm2
      have ex : x.ws[m]? = some ((x.ws[m]?).getD 0) := (getD_mem hw).2
      exact xe_op (by walk_at "x") (xe_var rfl) (xr_ixT (map_int_at ex))
end
end SG

namespace SG
open PySem L2
local macro_rules | `(tactic| walk_at "xR") => `(tactic| first
  | ((with_reducible show Rnum _ _); exact ⟨_, by assumption, rfl, rfl⟩)
  | ((with_reducible show Rbit _ _); exact ⟨_, _, by assumption, by first | assumption | decide | omega, rfl, rfl⟩)
  | ((with_reducible show Rpart _ _); exact ⟨_, _, by assumption, by assumption, rfl, rfl⟩)
  | ((with_reducible show Risn _ _); exact ⟨_, by assumption, rfl, rfl⟩)
  | ((with_reducible show Rleast _ _); exact ⟨_, _, by assumption, rfl, rfl⟩)
  | ((with_reducible show Rgreat _ _); exact ⟨_, _, by assumption, rfl, rfl⟩)
  | ((with_reducible show RlfRow _ _); exact ⟨_, _, by assumption, rfl, rfl⟩)
  | ((with_reducible show RsmNums _ _); exact ⟨_, _, by assumption, rfl, rfl⟩)
  | ((with_reducible show RbrRow _ _); exact ⟨_, _, _, by assumption, by assumption, rfl, rfl⟩)
  | ((with_reducible show RbrSm _ _ _); exact ⟨_, _, _, _, by assumption, by assumption, by assumption, rfl, rfl⟩)
  | ((with_reducible show Rworths _ _); exact ⟨_, by assumption, by assumption, rfl, rfl⟩)
  | ((with_reducible show Rnotes _ _); exact ⟨_, by assumption, by assumption, rfl, rfl⟩)
  | ((with_reducible show RisLeaf _ _); exact ⟨_, _, by assumption, rfl, rfl⟩)
  | ((with_reducible show RareSides _ _); exact ⟨_, _, _, by assumption, by assumption, rfl, rfl⟩)
  | ((with_reducible show RisIn _ _); exact ⟨_, _, _, _, by assumption, by assumption, rfl, rfl⟩)
  | ((with_reducible show Rsl _ _ _); exact ⟨_, _, by assumption, by first | assumption | omega, rfl, rfl⟩)
  | ((with_reducible show Rsumm _ _ _ _); exact ⟨_, _, _, by assumption, by assumption, by first | assumption | omega, rfl, rfl⟩)
  | ((with_reducible show Rtop _ _ _ _); exact ⟨_, _, _, by assumption, by assumption, rfl, rfl⟩)
  | ((with_reducible show Rroot _ _ _ _); exact ⟨_, _, _, by assumption, by assumption, rfl, rfl⟩)
  | ((with_reducible show Rkinds _ _ _); exact ⟨_, _, by assumption, by first | assumption | omega, rfl, rfl⟩)
  | ((with_reducible show Rvalid _ _ _ _); exact ⟨_, _, _, by assumption, by first | assumption | omega, rfl, rfl⟩)
  | ((with_reducible show Rorder _ _ _); exact ⟨_, _, by assumption, by first | assumption | omega, rfl, rfl⟩)
  | ((with_reducible show Rwf _ _ _ _); exact ⟨_, _, _, by assumption, rfl, rfl⟩)
  | ((with_reducible show RleafT _ _); exact ⟨_, _, _, by assumption, by assumption, rfl, rfl⟩)
  | ((with_reducible show RrangeT _ _); exact ⟨_, _, _, _, by assumption, by assumption, by assumption, rfl, rfl⟩)
  | ((with_reducible show RrankT _ _); exact ⟨_, _, _, by assumption, by assumption, rfl, rfl⟩)
  | ((with_reducible show RplaceT _ _); exact ⟨_, _, _, by assumption, rfl, rfl⟩)
  | ((with_reducible show RnextT _ _); exact ⟨_, _, _, by assumption, by assumption, rfl, rfl⟩)
  | ((with_reducible show Rtold _ _); exact ⟨_, _, _, by assumption, by assumption, by assumption, rfl, rfl⟩)
  | ((with_reducible show RsideQ _ _); exact ⟨_, _, _, _, by assumption, by assumption, by assumption, rfl, rfl⟩)
  | ((with_reducible show Rjoin _ _); exact ⟨_, _, _, _, _, by assumption, by assumption, by assumption, rfl, rfl⟩)
  | ((with_reducible show Rempty _ _); exact ⟨_, by assumption, rfl, rfl⟩)
  | ((with_reducible show Rask0 _ _ _ _); exact ⟨_, _, _, _, by assumption, by assumption, by assumption, by assumption, rfl, rfl⟩)
  | ((with_reducible show Rcell _ _); exact ⟨_, _, by assumption, by first | assumption | omega, rfl, rfl⟩)
  | ((with_reducible show Rname _ _); exact ⟨_, rfl, rfl⟩)
  | ((with_reducible show Rmod _ _); exact ⟨_, rfl, rfl⟩)
  | ((with_reducible show Rlsl _ _); exact ⟨_, _, by assumption, by first | assumption | omega, rfl, rfl⟩)
  | ((with_reducible show Rlrow _ _ _); exact ⟨_, _, _, by assumption, by assumption, by first | assumption | omega, rfl, rfl⟩)
  | ((with_reducible show Rlsum _ _ _); exact ⟨_, _, _, by assumption, by assumption, by first | assumption | omega, rfl, rfl⟩)
  | ((with_reducible show Rltop _ _ _); exact ⟨_, _, _, by assumption, by assumption, rfl, rfl⟩)
  | ((with_reducible show Rlroot _ _ _); exact ⟨_, _, _, by assumption, by assumption, rfl, rfl⟩)
  | ((with_reducible show Rbits _ _); exact ⟨_, by assumption, rfl, rfl⟩)
  | ((with_reducible show Rquest _ _); exact ⟨_, rfl, rfl⟩)
  | ((with_reducible show Rsums _ _); exact ⟨_, _, by assumption, by first | assumption | omega, rfl, rfl⟩)
  | skip)
local macro_rules | `(tactic| walk_at "sub") => `(tactic| repeat first | exact sub_nil | refine sub_none ?_ | refine sub_same ?_)
local macro_rules | `(tactic| walk_at "xl") => `(tactic| first | decide | (simp only [List.length_cons, List.length_nil, List.length_append, List.length_map]; omega) | skip)
local macro_rules | `(tactic| walk_at "xr") => `(tactic| first
  | with_reducible exact xr_addI | with_reducible exact xr_sub | with_reducible exact xr_eqS | with_reducible exact xr_eqI | with_reducible exact xr_isN | with_reducible exact xr_notN
  | with_reducible exact xr_ltI | with_reducible exact xr_leI | with_reducible exact xr_gtI | with_reducible exact xr_geI | with_reducible exact xr_neS | with_reducible exact xr_neI
  | with_reducible exact xr_ltS | with_reducible exact xr_leS | with_reducible exact xr_gtS | with_reducible exact xr_inC | with_reducible exact xr_xor
  | ((with_reducible apply xr_ixTi); (next => decide); (next => exact rfl))
  | ((with_reducible apply xr_ixLi); (next => decide); (next => exact rfl))
  | ((with_reducible apply xr_addT); walk_at "xl") | ((with_reducible apply xr_addL); walk_at "xl") | ((with_reducible apply xr_addS); walk_at "xl")
  | ((with_reducible apply xr_mulI); first | exact .inl ⟨by decide, by decide⟩ | exact .inr ⟨by decide, by decide⟩ | exact .inl ⟨by omega, by omega⟩ | exact .inr ⟨by omega, by omega⟩ | skip)
  | ((with_reducible apply xr_fdiv); first | exact ⟨by decide, by decide⟩ | exact ⟨by omega, by omega⟩ | skip) | ((with_reducible apply xr_mod); first | assumption | decide | omega | skip) | ((with_reducible apply xr_shr); first | decide | omega | skip)
  | skip)
local macro_rules | `(tactic| walk_at "xc") => `(tactic| first
  | with_reducible exact xc_lenT | with_reducible exact xc_lenL | with_reducible exact xc_lenQ | with_reducible exact xc_int | with_reducible exact xc_abs | with_reducible exact xc_listT | with_reducible exact xc_tupL
  | ((with_reducible apply xc_lenS); first | assumption | omega | skip) | with_reducible exact xc_sum | with_reducible exact xc_all | skip)
local macro_rules | `(tactic| walk_at "xe") => `(tactic| first
  | ((with_reducible apply xe_var); exact rfl) | with_reducible exact xe_int | with_reducible exact xe_str | with_reducible exact xe_non | with_reducible exact xe_bl
  | ((with_reducible apply xe_op) <;> walk_at "x") | ((with_reducible apply xe_tup) <;> walk_at "x") | ((with_reducible apply xe_cb) <;> walk_at "x")
  | ((with_reducible apply xe_call) <;> walk_at "x") | ((with_reducible apply xe_lst) <;> walk_at "x")
  | ((with_reducible apply xe_meth) <;> walk_at "x") | ((with_reducible apply xe_bits) <;> walk_at "x") | ((with_reducible apply xe_not) <;> walk_at "x")
  | ((with_reducible apply xe_and) <;> walk_at "x") | ((with_reducible apply xe_or) <;> walk_at "x") | ((with_reducible apply xe_chain) <;> walk_at "x")
  | ((with_reducible apply xe_slT) <;> walk_at "x") | ((with_reducible apply xe_fld) <;> walk_at "x") | skip)
local macro_rules | `(tactic| walk_at "x") => `(tactic| first
  | ((with_reducible show XE _ _ _ _); walk_at "xe") | ((with_reducible show XR _ _ _ _ _); walk_at "xr") | ((with_reducible show XC _ _ _ _); walk_at "xc")
  | with_reducible exact xa_nil | ((with_reducible apply xa_cons) <;> walk_at "x")
  | ((with_reducible apply xt_test) <;> walk_at "x") | ((with_reducible apply xt_B) <;> walk_at "x") | ((with_reducible apply xt_and) <;> walk_at "x") | ((with_reducible apply xt_or) <;> walk_at "x")
  | ((with_reducible apply xt_not) <;> walk_at "x") | with_reducible exact xt_yes
  | with_reducible exact xo_none | ((with_reducible apply xo_some) <;> walk_at "x")
  | ((with_reducible show List.length _ ≤ 100000); walk_at "xl") | ((with_reducible show (_ == _) = false); decide +kernel) | ((with_reducible show Cls _ _); assumption) | ((with_reducible show NoAttr _ _ _); assumption) | ((with_reducible intro _); walk_at "x") | walk_at "xR")
local macro_rules | `(tactic| walk_at "if0") => `(tactic| (refine xs_ifs (b := false) (XT.to (by walk_at "x") (by decide +kernel)) (fun h => (by cases h)) fun _ => xs_nseq ?_))
local macro_rules | `(tactic| walk_at "if1") => `(tactic| (refine xs_ifs (b := true) (XT.to (by walk_at "x") (by decide +kernel)) (fun _ => xs_seqr ?_) fun h => (by cases h)))
local macro_rules | `(tactic| walk_at "ret") => `(tactic| ((refine xs_ret' (by walk_at "x") ?_); (first | done | rfl | skip)))

section
variable {P : Program} {w : World} {K : PySem.W.Frag} {mg : Str → Option Value} {base : Heap} {C eRow : Addr} {k : Nat}
abbrev s__law_leaves : Stmt := top 66
theorem sc__law_leaves : FnScope ["_law_script", "_law_at", "_law_count", "_law_kinds", "_law_found", "_law_k", "_law_cell_here", "_law_name_here", "_law_worths", "_law_j", "_law_notes"] ["_law_script", "_law_at", "_law_count", "_law_kinds"] (defScope s__law_leaves) := ⟨rfl, rfl, rfl, by decide +kernel, rfl, by decide +kernel, by decide +kernel⟩
theorem kvsOf_put (ls : List Lf) (l : Lf) : kvsOf (putL ls l) = putD (kvsOf ls) l.nm (encL l) := by
  have e : ((kvsOf ls).any fun kv => decide (kv.1 = l.nm)) = ls.any fun x => decide (x.nm = l.nm) := by
    unfold kvsOf
    rw [List.any_map]
    rfl
  unfold putL putD
  rw [e]
  split
  · unfold kvsOf
    rw [List.map_map, List.map_map]
    refine List.map_congr_left fun x _ => ?_
    show ((if x.nm = l.nm then l else x).nm, encL (if x.nm = l.nm then l else x)) = if x.nm = l.nm then (x.nm, encL l) else (x.nm, encL x)
    by_cases c : x.nm = l.nm
    · rw [if_pos c, if_pos c, c]
    · rw [if_neg c, if_neg c]
  · unfold kvsOf
    rw [List.map_append]
    rfl
theorem kvsOf_len (ls : List Lf) : (kvsOf ls).length = ls.length := List.length_map _
theorem pr__law_leaves (F : DefAt K mg "_law_leaves" s__law_leaves) (T : Txt K mg C eRow) (h__law_cell : Pr P w K mg base 1 "_law_cell" ["_law_script", "_law_k"] (spD K Rcell)) (h__law_name : Pr P w K mg base 1 "_law_name" ["_law_number_here"] (spD K Rname)) : Pr P w K mg base 2 "_law_leaves" ["_law_script", "_law_at", "_law_count", "_law_kinds"] (spD K Rleaves) := by
  refine pr_mk F sc__law_leaves (fun _ _ _ _ _ _ us hl => match us, hl with | [_, _, _, _], _ => rfl) (fun ds d ⟨ns, a, n, k, _, _, _, _, _, e, _⟩ => by rw [e]; rfl) fun f cdv A outer s0 H E hr => ⟨_, (pss_cons (ps_set (i := 4) sc__law_leaves.nd rfl (by first | exact .inl rfl | exact .inr rfl) (pe_dnewK))
    (pss_cons (ps_for PassesOwn.never rfl (pi_range1 rfl T.range (pa_cons (pv 2) pa_nil)) (pg_name (i := 5) sc__law_leaves.nd rfl (by first | exact .inl rfl | exact .inr rfl)) (pss_cons (ps_set (i := 6) sc__law_leaves.nd rfl (by first | exact .inl rfl | exact .inr rfl) (pe_callB call_abs (by rfl) T.abs (by decide +kernel) (pa_cons (pe_callD h__law_cell (hr.mono (by omega)) rfl (pa_cons (pv 0) (pa_cons (pe_op (op_addK (K := K) rfl) (pv 1) (pv 5)) pa_nil))) pa_nil)))
    (pss_cons (ps_set (i := 7) sc__law_leaves.nd rfl (by first | exact .inl rfl | exact .inr rfl) (pe_callD h__law_name (hr.mono (by omega)) rfl (pa_cons (pe_op op_modN (pv 6) (pe_int)) pa_nil)))
    (pss_cons (ps_set (i := 8) sc__law_leaves.nd rfl (by first | exact .inl rfl | exact .inr rfl) (pe_callTy (call_tupK (K := K) rfl) (by rfl) T.tuple (by decide +kernel) (pa_cons (pe_lc (own := [("_law_j", 9)]) rfl sc__law_leaves.nd (pi_range1 rfl T.range (pa_cons (pv 3) pa_nil)) (blkOk_by (by kernel_rfl)) (fun _ _ _ _ _ => (pg_name (i := 9) sc__law_leaves.nd rfl (by first | exact .inl rfl | exact .inr rfl))) (fun _ _ _ _ _ => pts_nil) (fun _ _ _ _ _ => (pe_ix (ix_K (K := K) rfl) (pe_lst (pa_cons (pe_int) (pa_cons (pe_int) (pa_cons (pe_int) (pa_cons (pe_int) (pa_cons (pe_int) (pa_cons (pe_int) pa_nil))))))) (pe_op op_modN (pe_op op_fdivN (pv 6) (pe_op (op_addK (K := K) rfl) (pe_int) (pe_op op_mulU (pe_int) (pv 9)))) (pe_int)) (fun _ _ => rfl)))) pa_nil)))
    (pss_cons (ps_set (i := 10) sc__law_leaves.nd rfl (by first | exact .inl rfl | exact .inr rfl) (pe_callTy (call_tupK (K := K) rfl) (by rfl) T.tuple (by decide +kernel) (pa_cons (pe_lc (own := [("_law_j", 9)]) rfl sc__law_leaves.nd (pi_range1 rfl T.range (pa_cons (pe_op op_modN (pe_op op_fdivN (pv 6) (pe_int)) (pe_int)) pa_nil)) (blkOk_by (by kernel_rfl)) (fun _ _ _ _ _ => (pg_name (i := 9) sc__law_leaves.nd rfl (by first | exact .inl rfl | exact .inr rfl))) (fun _ _ _ _ _ => pts_nil) (fun _ _ _ _ _ => (pe_ix (ix_K (K := K) rfl) (pe_lst (pa_cons (pe_int) (pa_cons (pe_int) (pa_cons (pe_int) (pa_cons (pe_int) (pa_cons (pe_int) pa_nil)))))) (pe_op op_modN (pe_op op_fdivN (pv 6) (pe_op (op_addK (K := K) rfl) (pe_int) (pe_op op_mulU (pe_int) (pv 9)))) (pe_int)) (fun _ _ => rfl)))) pa_nil)))
    (pss_one (ps_dput (hu_of hr) (pv 4) (pv 7) (pe_tup (pa_cons (pe_str) (pa_cons (pv 7) (pa_cons (pv 8) (pa_cons (pv 10) pa_nil))))) rfl)))))))
    (pss_one (ps_ret (pv 4))))), ?_⟩
  rintro ds d ⟨ns, a, n, k, hns, ha, hn, hk1, hk3, rfl, rfl⟩
  refine xs_dictfor (N := (n : Nat)) (fun _ => [some (.sq (ns.map .int)), some (.int a), some (.int (n : Nat)), some (.int (k : Nat)), none, none, none, none, none, none, none]) (fun n => kvsOf (lawLeaves ns a k n)) rfl (by decide) ⟨by omega, by omega⟩ (by show 4 < 11; decide) (fun n => by rw [kvsOf_len]; exact lawLeaves_len ns a k n)
    (fun r => by walk_at "x") (fun r => by walk_at "sub") (fun r m hm => ?_) ?_ (by show 4 < 11; decide)
  · have h0 : 0 ≤ a + (m : Int) := by omega
    generalize ec : absI (cell ns (a + (m : Int))) = c
    refine ⟨(lfOf c k).nm, encL (lfOf c k), [some (.sq (ns.map .int)), some (.int a), some (.int (n : Nat)), some (.int (k : Nat)), some (.raw r), some (.int (m : Nat)), some (.int c), none, none, none, none],
      [some (.sq (ns.map .int)), some (.int a), some (.int (n : Nat)), some (.int (k : Nat)), some (.raw r), some (.int (m : Nat)), some (.int c), some (.str (lfOf c k).nm), none, none, none],
      [some (.sq (ns.map .int)), some (.int a), some (.int (n : Nat)), some (.int (k : Nat)), some (.raw r), some (.int (m : Nat)), some (.int c), some (.str (lfOf c k).nm), some (encI (lfOf c k).ws), none, none],
      [some (.sq (ns.map .int)), some (.int a), some (.int (n : Nat)), some (.int (k : Nat)), some (.raw r), some (.int (m : Nat)), some (.int c), some (.str (lfOf c k).nm), some (encI (lfOf c k).ws), none, some (encI (lfOf c k).ns)], ?_, ?_, ?_, ?_, ?_, ?_, ?_, rfl, ?_⟩
    · show kvsOf (putL (lawLeaves ns a k m) (lfOf (absI (cell ns (a + (m : Int)))) k)) = _
      rw [ec, kvsOf_put]
    · rw [← ec]
      exact (xs_set (by walk_at "x")).weak (by walk_at "sub")
    · exact (xs_set (by walk_at "x")).weak (by walk_at "sub")
    · refine (xs_set (xe_cb (xa_cons (xe_lcx (((List.range k).map (wAt c)).map .int) ?_ (xi_range1 (by walk_at "x") (by omega)) (by rw [rngD_len]; omega) fun l d y h1 h2 => ?_) xa_nil) xc_tupL)).weak (by walk_at "sub")
      · rw [rngD_len, List.length_map, List.length_map, List.length_range]
        omega
      · obtain ⟨hl, rfl⟩ := rngD_get0 h1
        have hl2 : l < k := by omega
        rw [List.getElem?_map, List.getElem?_map, List.getElem?_range hl2] at h2
        cases h2
        have r6 := fmod_rng (c.fdiv (1200 + 7 * (l : Int))) (m := 6) (by decide)
        have q2 : (wTab.map D.int)[((c.fdiv (1200 + 7 * (l : Int))).fmod 6).toNat]? = some (.int (wAt c l)) := map_int_at (getD_mem (l := wTab) (x := 0) (by have e : wTab.length = 6 := rfl; omega)).2
        exact xe_op (xe_lst (ds := wTab.map D.int) (xa_cons xe_int (xa_cons xe_int (xa_cons xe_int (xa_cons xe_int (xa_cons xe_int (xa_cons xe_int xa_nil)))))) (by decide)) (by walk_at "x") (xr_ixLi r6.1 q2)
    · have r4 := fmod_rng (c.fdiv 60000) (m := 4) (by decide)
      refine (xs_set (xe_cb (xa_cons (xe_lcx (((List.range ((c.fdiv 60000).fmod 4).toNat).map (nAt c)).map .int) ?_ (xi_range1 (by walk_at "x") (by omega)) (by rw [rngD_len]; omega) fun l d y h1 h2 => ?_) xa_nil) xc_tupL)).weak (by walk_at "sub")
      · rw [rngD_len, List.length_map, List.length_map, List.length_range]
      · obtain ⟨hl, rfl⟩ := rngD_get0 h1
        rw [List.getElem?_map, List.getElem?_map, List.getElem?_range hl] at h2
        cases h2
        have r6 := fmod_rng (c.fdiv (9000 + 11 * (l : Int))) (m := 5) (by decide)
        have q2 : (nTab.map D.int)[((c.fdiv (9000 + 11 * (l : Int))).fmod 5).toNat]? = some (.int (nAt c l)) := map_int_at (getD_mem (l := nTab) (x := 0) (by have e : nTab.length = 5 := rfl; omega)).2
        exact xe_op (xe_lst (ds := nTab.map D.int) (xa_cons xe_int (xa_cons xe_int (xa_cons xe_int (xa_cons xe_int (xa_cons xe_int xa_nil))))) (by decide)) (by walk_at "x") (xr_ixLi r6.1 q2)
    · exact xe_tup (xa_cons xe_str (xa_cons (xe_var rfl) (xa_cons (xe_var rfl) (xa_cons (xe_var rfl) xa_nil)))) (by show 4 ≤ 100000; decide)
    · exact xe_var rfl
    · walk_at "sub"
  · have en : (((n : Nat) : Int).toNat) = n := by omega
    refine xs_ret' (by walk_at "x") ?_
    rw [en]
end
end SG

namespace SG
open PySem L2
local macro_rules | `(tactic| walk_at "xR") => `(tactic| first
  | ((with_reducible show Rnum _ _); exact ⟨_, by assumption, rfl, rfl⟩)
  | ((with_reducible show Rbit _ _); exact ⟨_, _, by assumption, by first | assumption | decide | omega, rfl, rfl⟩)
  | ((with_reducible show Rpart _ _); exact ⟨_, _, by assumption, by assumption, rfl, rfl⟩)
  | ((with_reducible show Risn _ _); exact ⟨_, by assumption, rfl, rfl⟩)
  | ((with_reducible show Rleast _ _); exact ⟨_, _, by assumption, rfl, rfl⟩)
  | ((with_reducible show Rgreat _ _); exact ⟨_, _, by assumption, rfl, rfl⟩)
  | ((with_reducible show RlfRow _ _); exact ⟨_, _, by assumption, rfl, rfl⟩)
  | ((with_reducible show RsmNums _ _); exact ⟨_, _, by assumption, rfl, rfl⟩)
  | ((with_reducible show RbrRow _ _); exact ⟨_, _, _, by assumption, by assumption, rfl, rfl⟩)
  | ((with_reducible show RbrSm _ _ _); exact ⟨_, _, _, _, by assumption, by assumption, by assumption, rfl, rfl⟩)
  | ((with_reducible show Rworths _ _); exact ⟨_, by assumption, by assumption, rfl, rfl⟩)
  | ((with_reducible show Rnotes _ _); exact ⟨_, by assumption, by assumption, rfl, rfl⟩)
  | ((with_reducible show RisLeaf _ _); exact ⟨_, _, by assumption, rfl, rfl⟩)
  | ((with_reducible show RareSides _ _); exact ⟨_, _, _, by assumption, by assumption, rfl, rfl⟩)
  | ((with_reducible show RisIn _ _); exact ⟨_, _, _, _, by assumption, by assumption, rfl, rfl⟩)
  | ((with_reducible show Rsl _ _ _); exact ⟨_, _, by assumption, by first | assumption | omega, rfl, rfl⟩)
  | ((with_reducible show Rsumm _ _ _ _); exact ⟨_, _, _, by assumption, by assumption, by first | assumption | omega, rfl, rfl⟩)
  | ((with_reducible show Rtop _ _ _ _); exact ⟨_, _, _, by assumption, by assumption, rfl, rfl⟩)
  | ((with_reducible show Rroot _ _ _ _); exact ⟨_, _, _, by assumption, by assumption, rfl, rfl⟩)
  | ((with_reducible show Rkinds _ _ _); exact ⟨_, _, by assumption, by first | assumption | omega, rfl, rfl⟩)
  | ((with_reducible show Rvalid _ _ _ _); exact ⟨_, _, _, by assumption, by first | assumption | omega, rfl, rfl⟩)
  | ((with_reducible show Rorder _ _ _); exact ⟨_, _, by assumption, by first | assumption | omega, rfl, rfl⟩)
  | ((with_reducible show Rwf _ _ _ _); exact ⟨_, _, _, by assumption, rfl, rfl⟩)
  | ((with_reducible show RleafT _ _); exact ⟨_, _, _, by assumption, by assumption, rfl, rfl⟩)
  | ((with_reducible show RrangeT _ _); exact ⟨_, _, _, _, by assumption, by assumption, by assumption, rfl, rfl⟩)
  | ((with_reducible show RrankT _ _); exact ⟨_, _, _, by assumption, by assumption, rfl, rfl⟩)
  | ((with_reducible show RplaceT _ _); exact ⟨_, _, _, by assumption, rfl, rfl⟩)
  | ((with_reducible show RnextT _ _); exact ⟨_, _, _, by assumption, by assumption, rfl, rfl⟩)
  | ((with_reducible show Rtold _ _); exact ⟨_, _, _, by assumption, by assumption, by assumption, rfl, rfl⟩)
  | ((with_reducible show RsideQ _ _); exact ⟨_, _, _, _, by assumption, by assumption, by assumption, rfl, rfl⟩)
  | ((with_reducible show Rjoin _ _); exact ⟨_, _, _, _, _, by assumption, by assumption, by assumption, rfl, rfl⟩)
  | ((with_reducible show Rempty _ _); exact ⟨_, by assumption, rfl, rfl⟩)
  | ((with_reducible show Rask0 _ _ _ _); exact ⟨_, _, _, _, by assumption, by assumption, by assumption, by assumption, rfl, rfl⟩)
  | ((with_reducible show Rcell _ _); exact ⟨_, _, by assumption, by first | assumption | omega, rfl, rfl⟩)
  | ((with_reducible show Rname _ _); exact ⟨_, rfl, rfl⟩)
  | ((with_reducible show Rmod _ _); exact ⟨_, rfl, rfl⟩)
  | ((with_reducible show Rlsl _ _); exact ⟨_, _, by assumption, by first | assumption | omega, rfl, rfl⟩)
  | ((with_reducible show Rlrow _ _ _); exact ⟨_, _, _, by assumption, by assumption, by first | assumption | omega, rfl, rfl⟩)
  | ((with_reducible show Rlsum _ _ _); exact ⟨_, _, _, by assumption, by assumption, by first | assumption | omega, rfl, rfl⟩)
  | ((with_reducible show Rltop _ _ _); exact ⟨_, _, _, by assumption, by assumption, rfl, rfl⟩)
  | ((with_reducible show Rlroot _ _ _); exact ⟨_, _, _, by assumption, by assumption, rfl, rfl⟩)
  | ((with_reducible show Rbits _ _); exact ⟨_, by assumption, rfl, rfl⟩)
  | ((with_reducible show Rquest _ _); exact ⟨_, rfl, rfl⟩)
  | ((with_reducible show Rsums _ _); exact ⟨_, _, by assumption, by first | assumption | omega, rfl, rfl⟩)
  | skip)
local macro_rules | `(tactic| walk_at "sub") => `(tactic| repeat first | exact sub_nil | refine sub_none ?_ | refine sub_same ?_)
local macro_rules | `(tactic| walk_at "xl") => `(tactic| first | decide | (simp only [List.length_cons, List.length_nil, List.length_append, List.length_map]; omega) | skip)
local macro_rules | `(tactic| walk_at "xr") => `(tactic| first
  | with_reducible exact xr_addI | with_reducible exact xr_sub | with_reducible exact xr_eqS | with_reducible exact xr_eqI | with_reducible exact xr_isN | with_reducible exact xr_notN
  | with_reducible exact xr_ltI | with_reducible exact xr_leI | with_reducible exact xr_gtI | with_reducible exact xr_geI | with_reducible exact xr_neS | with_reducible exact xr_neI
  | with_reducible exact xr_ltS | with_reducible exact xr_leS | with_reducible exact xr_gtS | with_reducible exact xr_inC | with_reducible exact xr_xor
  | ((with_reducible apply xr_ixTi); (next => decide); (next => exact rfl))
  | ((with_reducible apply xr_ixLi); (next => decide); (next => exact rfl))
  | ((with_reducible apply xr_addT); walk_at "xl") | ((with_reducible apply xr_addL); walk_at "xl") | ((with_reducible apply xr_addS); walk_at "xl")
  | ((with_reducible apply xr_mulI); first | exact .inl ⟨by decide, by decide⟩ | exact .inr ⟨by decide, by decide⟩ | exact .inl ⟨by omega, by omega⟩ | exact .inr ⟨by omega, by omega⟩ | skip)
  | ((with_reducible apply xr_fdiv); first | exact ⟨by decide, by decide⟩ | exact ⟨by omega, by omega⟩ | skip) | ((with_reducible apply xr_mod); first | assumption | decide | omega | skip) | ((with_reducible apply xr_shr); first | decide | omega | skip)
  | skip)
local macro_rules | `(tactic| walk_at "xc") => `(tactic| first
  | with_reducible exact xc_lenT | with_reducible exact xc_lenL | with_reducible exact xc_lenQ | with_reducible exact xc_int | with_reducible exact xc_abs | with_reducible exact xc_listT | with_reducible exact xc_tupL
  | ((with_reducible apply xc_lenS); first | assumption | omega | skip) | with_reducible exact xc_sum | with_reducible exact xc_all | skip)
local macro_rules | `(tactic| walk_at "xe") => `(tactic| first
  | ((with_reducible apply xe_var); exact rfl) | with_reducible exact xe_int | with_reducible exact xe_str | with_reducible exact xe_non | with_reducible exact xe_bl
  | ((with_reducible apply xe_op) <;> walk_at "x") | ((with_reducible apply xe_tup) <;> walk_at "x") | ((with_reducible apply xe_cb) <;> walk_at "x")
  | ((with_reducible apply xe_call) <;> walk_at "x") | ((with_reducible apply xe_lst) <;> walk_at "x")
  | ((with_reducible apply xe_meth) <;> walk_at "x") | ((with_reducible apply xe_bits) <;> walk_at "x") | ((with_reducible apply xe_not) <;> walk_at "x")
  | ((with_reducible apply xe_and) <;> walk_at "x") | ((with_reducible apply xe_or) <;> walk_at "x") | ((with_reducible apply xe_chain) <;> walk_at "x")
  | ((with_reducible apply xe_slT) <;> walk_at "x") | ((with_reducible apply xe_fld) <;> walk_at "x") | skip)
local macro_rules | `(tactic| walk_at "x") => `(tactic| first
  | ((with_reducible show XE _ _ _ _); walk_at "xe") | ((with_reducible show XR _ _ _ _ _); walk_at "xr") | ((with_reducible show XC _ _ _ _); walk_at "xc")
  | with_reducible exact xa_nil | ((with_reducible apply xa_cons) <;> walk_at "x")
  | ((with_reducible apply xt_test) <;> walk_at "x") | ((with_reducible apply xt_B) <;> walk_at "x") | ((with_reducible apply xt_and) <;> walk_at "x") | ((with_reducible apply xt_or) <;> walk_at "x")
  | ((with_reducible apply xt_not) <;> walk_at "x") | with_reducible exact xt_yes
  | with_reducible exact xo_none | ((with_reducible apply xo_some) <;> walk_at "x")
  | ((with_reducible show List.length _ ≤ 100000); walk_at "xl") | ((with_reducible show (_ == _) = false); decide +kernel) | ((with_reducible show Cls _ _); assumption) | ((with_reducible show NoAttr _ _ _); assumption) | ((with_reducible intro _); walk_at "x") | walk_at "xR")
local macro_rules | `(tactic| walk_at "if0") => `(tactic| (refine xs_ifs (b := false) (XT.to (by walk_at "x") (by decide +kernel)) (fun h => (by cases h)) fun _ => xs_nseq ?_))
local macro_rules | `(tactic| walk_at "if1") => `(tactic| (refine xs_ifs (b := true) (XT.to (by walk_at "x") (by decide +kernel)) (fun _ => xs_seqr ?_) fun h => (by cases h)))
local macro_rules | `(tactic| walk_at "ret") => `(tactic| ((refine xs_ret' (by walk_at "x") ?_); (first | done | rfl | skip)))

section
variable {P : Program} {w : World} {K : PySem.W.Frag} {mg : Str → Option Value} {base : Heap} {C eRow : Addr} {k : Nat}
abbrev s__law_answer : Stmt := top 77
theorem sc__law_answer : FnScope ["_law_known", "_law_question_here", "_law_names", "_law_leaves_here", "_law_name_here", "_law_leaf", "_law_chosen"] ["_law_known", "_law_question_here"] (defScope s__law_answer) := ⟨rfl, rfl, rfl, by decide +kernel, rfl, by decide +kernel, by decide +kernel⟩
def encN (l : Lf) : D := .str l.nm
theorem names_D (ss : List Lf) : (ss.map Lf.nm).map D.str = ss.map encN := by rw [List.map_map]; rfl
theorem pr__law_answer0 (F : DefAt K mg "_law_answer" s__law_answer) (T : Txt K mg C eRow) (h__law_sums : Pr P w K mg base 1 "_law_sums" ["_law_leaves_here"] (spD K Rsums)) (h__law_answer : Pr P w K mg base 1 "_law_answer" ["_law_known", "_law_question_here"] (spD K fun _ _ => False)) :
    Pr P w K mg base 2 "_law_answer" ["_law_known", "_law_question_here"] (spD K Rlans0) := by
  refine pr_mk F sc__law_answer (fun _ _ _ _ _ _ us hl => match us, hl with | [_, _], _ => rfl) (fun ds d ⟨k, ls, ss, q, _, _, _, _, _, _, _, e, _⟩ => by rw [e]; rfl) fun f cdv A outer s0 H E hr => ⟨_, (pss_cons (ps_set (i := 2) sc__law_answer.nd rfl (by first | exact .inl rfl | exact .inr rfl) (pe_callB (L2.call_sortedD rfl) (by rfl) T.sorted (by decide +kernel) (pa_cons (pv 0) pa_nil)))
    (pss_cons (ps_setLc (i := 3) (own := [("_law_name_here", 4)]) rfl sc__law_answer.nd rfl rfl (sw_true rfl rfl rfl (by decide +kernel)) (pi_listK (K := K) rfl (pv 2)) (blkOk_by (by kernel_rfl)) (fun _ _ _ _ _ => (pg_name (i := 4) sc__law_answer.nd rfl (by first | exact .inl rfl | exact .inr rfl))) (fun _ _ _ _ _ => pts_nil) (fun _ _ _ _ _ => (pe_dget (hu_of hr) (pv 0) (pv 4) (fun _ _ => rfl))))
    (pss_cons (ps_if (pt_cmpR op_eq (pe_ix (ix_K (K := K) rfl) (pv 1) (pe_int) (fun _ _ => rfl)) (pe_str) (nomark _)) (pss_cons (ps_set (i := 5) sc__law_answer.nd rfl (by first | exact .inl rfl | exact .inr rfl) (pe_dget1 (hu_of hr) (pv 0) (pe_ix (ix_K (K := K) rfl) (pv 1) (pe_int) (fun _ _ => rfl)) ⟨rfl, rfl, rfl, rfl⟩))
    (pss_cons (ps_if (pt_cmpR op_isN (pv 5) pe_non (nomark _)) (pss_one (ps_ret (pe_non))) pss_nil)
    (pss_one (ps_ret (pe_tup (pa_cons (pe_ix (ix_K (K := K) rfl) (pv 5) (pe_int) (fun _ _ => rfl)) (pa_cons (pe_ix (ix_K (K := K) rfl) (pv 5) (pe_int) (fun _ _ => rfl)) pa_nil))))))) pss_nil)
    (pss_cons (ps_if (pt_cmpR op_eq (pe_ix (ix_K (K := K) rfl) (pv 1) (pe_int) (fun _ _ => rfl)) (pe_str) (nomark _)) (pss_one (ps_ret (pe_callTy (call_tupK (K := K) rfl) (by rfl) T.tuple (by decide +kernel) (pa_cons (pe_lc (own := [("_law_name_here", 4)]) rfl sc__law_answer.nd (pi_tupK (K := K) rfl (pe_ix (ix_K (K := K) rfl) (pv 1) (pe_int) (fun _ _ => rfl))) (blkOk_by (by kernel_rfl)) (fun _ _ _ _ _ => (pg_name (i := 4) sc__law_answer.nd rfl (by first | exact .inl rfl | exact .inr rfl))) (fun _ _ _ _ _ => pts_nil) (fun _ _ _ _ _ => (pe_callD h__law_answer (hr.mono (by omega)) rfl (pa_cons (pv 0) (pa_cons (pe_tup (pa_cons (pe_str) (pa_cons (pv 4) pa_nil))) pa_nil))))) pa_nil)))) pss_nil)
    (pss_cons (ps_if (pt_cmpR op_eq (pe_ix (ix_K (K := K) rfl) (pv 1) (pe_int) (fun _ _ => rfl)) (pe_str) (nomark _)) (pss_one (ps_ret (pe_callB (call_lenK (K := K) rfl) (by rfl) T.len PySem.boot_len (pa_cons (pv 2) pa_nil)))) pss_nil)
    (pss_cons (ps_if (pt_cmpR op_eq (pe_ix (ix_K (K := K) rfl) (pv 1) (pe_int) (fun _ _ => rfl)) (pe_str) (nomark _)) (pss_one (ps_ret (pe_callD h__law_sums (hr.mono (by omega)) rfl (pa_cons (pv 3) pa_nil)))) pss_nil)
    (pss_cons (ps_if (pt_cmpR op_eq (pe_ix (ix_K (K := K) rfl) (pv 1) (pe_int) (fun _ _ => rfl)) (pe_str) (nomark _)) (pss_cons (ps_setLc (i := 6) (own := [("_law_leaf", 5)]) rfl sc__law_answer.nd rfl rfl (sw_true rfl rfl rfl (by decide +kernel)) (pi_listK (K := K) rfl (pv 3)) (blkOk_by (by kernel_rfl)) (fun _ _ _ _ _ => (pg_name (i := 5) sc__law_answer.nd rfl (by first | exact .inl rfl | exact .inr rfl))) (fun _ _ _ _ _ => pts_one (pt_chain op_leU op_leU (pe_ix (ix_K (K := K) rfl) (pv 1) (pe_int) (fun _ _ => rfl)) (pe_ix (ix_K (K := K) rfl) (pv 5) (pe_int) (fun _ _ => rfl)) (pe_ix (ix_K (K := K) rfl) (pv 1) (pe_int) (fun _ _ => rfl)))) (fun _ _ _ _ _ => (pv 5)))
    (pss_one (ps_ret (pe_tup (pa_cons (pe_callB (call_lenK (K := K) rfl) (by rfl) T.len PySem.boot_len (pa_cons (pv 6) pa_nil)) (pa_cons (pe_callD h__law_sums (hr.mono (by omega)) rfl (pa_cons (pv 6) pa_nil)) pa_nil)))))) pss_nil)
    (pss_cons (ps_if (pt_cmpR op_eq (pe_ix (ix_K (K := K) rfl) (pv 1) (pe_int) (fun _ _ => rfl)) (pe_str) (nomark _)) (pss_one (ps_ret (pe_callB (call_lenK (K := K) rfl) (by rfl) T.len PySem.boot_len (pa_cons (pe_lc (own := [("_law_name_here", 4)]) rfl sc__law_answer.nd (pi_listK (K := K) rfl (pv 2)) (blkOk_by (by kernel_rfl)) (fun _ _ _ _ _ => (pg_name (i := 4) sc__law_answer.nd rfl (by first | exact .inl rfl | exact .inr rfl))) (fun _ _ _ _ _ => pts_one (pt_cmpR op_ltU (pv 4) (pe_ix (ix_K (K := K) rfl) (pv 1) (pe_int) (fun _ _ => rfl)) (nomark _))) (fun _ _ _ _ _ => (pv 4))) pa_nil)))) pss_nil)
    (pss_cons (ps_if (pt_cmpR op_eq (pe_ix (ix_K (K := K) rfl) (pv 1) (pe_int) (fun _ _ => rfl)) (pe_str) (nomark _)) (pss_one (ps_ret (pe_ix (ix_K (K := K) rfl) (pe_op (op_addK (K := K) rfl) (pv 2) (pe_op op_mulU (pe_lst (pa_cons (pe_non) pa_nil)) (pe_op (op_addK (K := K) rfl) (pe_ix (ix_K (K := K) rfl) (pv 1) (pe_int) (fun _ _ => rfl)) (pe_int)))) (pe_ix (ix_K (K := K) rfl) (pv 1) (pe_int) (fun _ _ => rfl)) (fun _ _ => rfl)))) pss_nil)
    (pss_one (ps_ret (pe_ix (ix_K (K := K) rfl) (pe_op (op_addK (K := K) rfl) (pe_lc (own := [("_law_name_here", 4)]) rfl sc__law_answer.nd (pi_listK (K := K) rfl (pv 2)) (blkOk_by (by kernel_rfl)) (fun _ _ _ _ _ => (pg_name (i := 4) sc__law_answer.nd rfl (by first | exact .inl rfl | exact .inr rfl))) (fun _ _ _ _ _ => pts_one (pt_cmpR op_gtU (pv 4) (pe_ix (ix_K (K := K) rfl) (pv 1) (pe_int) (fun _ _ => rfl)) (nomark _))) (fun _ _ _ _ _ => (pv 4))) (pe_lst (pa_cons (pe_non) pa_nil))) (pe_int) (fun _ _ => rfl))))))))))))), ?_⟩
  rintro ds d ⟨k, ls, ss, q, hok, hl, hnd, hs, hq, hsm, hn, rfl, rfl⟩
  have hss : ss.length = ls.length := hs.perm.length_eq
  have oks : ∀ l ∈ ss, LfOk k l := fun l h => hok l (hs.perm.mem_iff.mp h)
  have lss : (ss.map encL).length = ss.length := List.length_map _
  have lsn : (ss.map encN).length = ss.length := List.length_map _
  refine xs_seq (xs_set (XE.to (xe_cb (xa_cons (xe_var rfl) xa_nil) (xc_sortedD (zs := ss.map Lf.nm) (by rw [kvsOf_len]; omega) (by rw [kvs_names]; exact hs.uniq))) (congrArg D.lst (names_D ss)))) ?_
  refine xs_seq (xs_set (xe_mapl encN encL (xi_list (xe_var rfl)) (by omega) fun l hl => xe_dget (xe_var rfl) (xe_var rfl) (by rw [getK_kvs, getL_mem hnd (hs.perm.mem_iff.mp hl)]; rfl))) ?_
  cases q with
  | several l => exact hn.elim
  | leaf x =>
    refine xs_ifs (b := true) (XT.to (by walk_at "x") (by decide +kernel)) (fun _ => xs_seqr ?_) fun h => (by cases h)
    refine xs_seq (xs_set (xe_dget1 (xe_var rfl) (by walk_at "x"))) ?_
    rw [getK_kvs]
    show XS K _ _ (.rt (encA (optA (getL ls x))))
    cases e : getL ls x with
    | none =>
      refine xs_ifs (b := true) (XT.to (by walk_at "x") (show D.isN ((Option.map encL none).getD .non) = true from rfl)) (fun _ => xs_seqr ?_) fun h => (by cases h)
      walk_at "ret"
    | some l =>
      refine xs_ifs (b := false) (XT.to (by walk_at "x") (show D.isN ((Option.map encL (some l)).getD .non) = false from rfl)) (fun h => (by cases h)) fun _ => xs_nseq ?_
      show XS K _ [_, _, _, _, _, some (encL l), _] _
      walk_at "ret"
  | count =>
    walk_at "if0"
    walk_at "if0"
    walk_at "if1"
    refine xs_ret' (by walk_at "x") ?_
    rw [lsn]
    rfl
  | total =>
    walk_at "if0"
    walk_at "if0"
    walk_at "if0"
    walk_at "if1"
    refine xs_ret' (xe_call (by walk_at "x") ⟨k, ss, oks, by omega, rfl, rfl⟩) (encA_optS _).symm
  | range x y =>
    walk_at "if0"
    walk_at "if0"
    walk_at "if0"
    walk_at "if0"
    walk_at "if1"
    have lf : (ss.filter (inR x y)).length ≤ ss.length := List.length_filter_le _ _
    refine xs_seq (xs_set (xe_filter encL encL (inR x y) (xi_list (xe_var rfl)) (by omega) fun l hl => ⟨xt_test (xe_chain (by walk_at "x") (by walk_at "x") xr_leS (fun _ => by walk_at "x") fun _ => xr_leS), fun _ => xe_var rfl⟩)) ?_
    refine xs_ret' (xe_tup (xa_cons (by walk_at "x") (xa_cons (xe_call (by walk_at "x") ⟨k, ss.filter (inR x y), fun l h => oks l (List.mem_filter.mp h).1, by omega, rfl, rfl⟩) xa_nil)) (by show 2 ≤ 100000; decide)) ?_
    rw [List.length_map]
    rfl
  | rank x =>
    walk_at "if0"
    walk_at "if0"
    walk_at "if0"
    walk_at "if0"
    walk_at "if0"
    walk_at "if1"
    refine xs_ret' (xe_cb (xa_cons (xe_filter encN encN (ltN x) (xi_list (xe_var rfl)) (by omega) fun l hl => ⟨xt_test (xe_op (xe_var rfl) (by walk_at "x") xr_ltS), fun _ => xe_var rfl⟩) xa_nil) xc_lenL) ?_
    rw [List.length_map]
    rfl
  | place n =>
    have h0 : 0 ≤ n := hq
    have h1 : n ≤ 1000 := hsm
    walk_at "if0"
    walk_at "if0"
    walk_at "if0"
    walk_at "if0"
    walk_at "if0"
    walk_at "if0"
    walk_at "if1"
    refine xs_ret (xe_op (xe_op (xe_var rfl) (xe_op (xe_lst (xa_cons xe_non xa_nil) (by show 1 ≤ 100000; decide)) (by walk_at "x") (xr_rep1 (by omega))) (xr_addL ?_)) (by walk_at "x") (xr_ixLi h0 ?_))
    · rw [List.length_replicate]
      omega
    · show (ss.map encN ++ List.replicate (n + 1).toNat D.non)[n.toNat]? = some (encA (optN ss[n.toNat]?))
      by_cases c : n.toNat < ss.length
      · rw [List.getElem?_append_left (by omega), List.getElem?_map, List.getElem?_eq_getElem c]
        rfl
      · rw [List.getElem?_append_right (by omega), List.getElem?_replicate, if_pos (by omega), List.getElem?_eq_none (by omega)]
        rfl
  | next x =>
    walk_at "if0"
    walk_at "if0"
    walk_at "if0"
    walk_at "if0"
    walk_at "if0"
    walk_at "if0"
    walk_at "if0"
    have lf : (ss.filter (gtN x)).length ≤ ss.length := List.length_filter_le _ _
    refine xs_ret (xe_op (xe_op (xe_filter encN encN (gtN x) (xi_list (xe_var rfl)) (by omega) fun l hl => ⟨xt_test (xe_op (xe_var rfl) (by walk_at "x") xr_gtS), fun _ => xe_var rfl⟩) (by walk_at "x") (xr_addL ?_)) xe_int (xr_ixLi (by decide) ?_))
    · rw [List.length_map]
      show (ss.filter (gtN x)).length + 1 ≤ 100000
      omega
    · show ((ss.filter (gtN x)).map encN ++ [D.non])[0]? = some (encA (optN (ss.filter (gtN x)).head?))
      cases ss.filter (gtN x) with
      | nil => rfl
      | cons a r => rfl
theorem pr__law_answer (F : DefAt K mg "_law_answer" s__law_answer) (T : Txt K mg C eRow) (h__law_sums : Pr P w K mg base 1 "_law_sums" ["_law_leaves_here"] (spD K Rsums)) : Pr P w K mg base 3 "_law_answer" ["_law_known", "_law_question_here"] (spD K Rlans) := by
  have h_none : Pr P w K mg base 1 "_law_answer" ["_law_known", "_law_question_here"] (spD K fun _ _ => False) := pr_none F (fun _ _ _ _ _ _ us hl => match us, hl with | [_, _], _ => rfl) (fun _ _ h => h) 1
  have h__law_answer := pr__law_answer0 F T h__law_sums h_none
  refine pr_mk F sc__law_answer (fun _ _ _ _ _ _ us hl => match us, hl with | [_, _], _ => rfl) (fun ds d ⟨k, ls, ss, q, _, _, _, _, _, _, e, _⟩ => by rw [e]; rfl) fun f cdv A outer s0 H E hr => ⟨_, (pss_cons (ps_set (i := 2) sc__law_answer.nd rfl (by first | exact .inl rfl | exact .inr rfl) (pe_callB (L2.call_sortedD rfl) (by rfl) T.sorted (by decide +kernel) (pa_cons (pv 0) pa_nil)))
    (pss_cons (ps_setLc (i := 3) (own := [("_law_name_here", 4)]) rfl sc__law_answer.nd rfl rfl (sw_true rfl rfl rfl (by decide +kernel)) (pi_listK (K := K) rfl (pv 2)) (blkOk_by (by kernel_rfl)) (fun _ _ _ _ _ => (pg_name (i := 4) sc__law_answer.nd rfl (by first | exact .inl rfl | exact .inr rfl))) (fun _ _ _ _ _ => pts_nil) (fun _ _ _ _ _ => (pe_dget (hu_of hr) (pv 0) (pv 4) (fun _ _ => rfl))))
    (pss_cons (ps_if (pt_cmpR op_eq (pe_ix (ix_K (K := K) rfl) (pv 1) (pe_int) (fun _ _ => rfl)) (pe_str) (nomark _)) (pss_cons (ps_set (i := 5) sc__law_answer.nd rfl (by first | exact .inl rfl | exact .inr rfl) (pe_dget1 (hu_of hr) (pv 0) (pe_ix (ix_K (K := K) rfl) (pv 1) (pe_int) (fun _ _ => rfl)) ⟨rfl, rfl, rfl, rfl⟩))
    (pss_cons (ps_if (pt_cmpR op_isN (pv 5) pe_non (nomark _)) (pss_one (ps_ret (pe_non))) pss_nil)
    (pss_one (ps_ret (pe_tup (pa_cons (pe_ix (ix_K (K := K) rfl) (pv 5) (pe_int) (fun _ _ => rfl)) (pa_cons (pe_ix (ix_K (K := K) rfl) (pv 5) (pe_int) (fun _ _ => rfl)) pa_nil))))))) pss_nil)
    (pss_cons (ps_if (pt_cmpR op_eq (pe_ix (ix_K (K := K) rfl) (pv 1) (pe_int) (fun _ _ => rfl)) (pe_str) (nomark _)) (pss_one (ps_ret (pe_callTy (call_tupK (K := K) rfl) (by rfl) T.tuple (by decide +kernel) (pa_cons (pe_lc (own := [("_law_name_here", 4)]) rfl sc__law_answer.nd (pi_tupK (K := K) rfl (pe_ix (ix_K (K := K) rfl) (pv 1) (pe_int) (fun _ _ => rfl))) (blkOk_by (by kernel_rfl)) (fun _ _ _ _ _ => (pg_name (i := 4) sc__law_answer.nd rfl (by first | exact .inl rfl | exact .inr rfl))) (fun _ _ _ _ _ => pts_nil) (fun _ _ _ _ _ => (pe_callD h__law_answer (hr.mono (by omega)) rfl (pa_cons (pv 0) (pa_cons (pe_tup (pa_cons (pe_str) (pa_cons (pv 4) pa_nil))) pa_nil))))) pa_nil)))) pss_nil)
    (pss_cons (ps_if (pt_cmpR op_eq (pe_ix (ix_K (K := K) rfl) (pv 1) (pe_int) (fun _ _ => rfl)) (pe_str) (nomark _)) (pss_one (ps_ret (pe_callB (call_lenK (K := K) rfl) (by rfl) T.len PySem.boot_len (pa_cons (pv 2) pa_nil)))) pss_nil)
    (pss_cons (ps_if (pt_cmpR op_eq (pe_ix (ix_K (K := K) rfl) (pv 1) (pe_int) (fun _ _ => rfl)) (pe_str) (nomark _)) (pss_one (ps_ret (pe_callD h__law_sums (hr.mono (by omega)) rfl (pa_cons (pv 3) pa_nil)))) pss_nil)
    (pss_cons (ps_if (pt_cmpR op_eq (pe_ix (ix_K (K := K) rfl) (pv 1) (pe_int) (fun _ _ => rfl)) (pe_str) (nomark _)) (pss_cons (ps_setLc (i := 6) (own := [("_law_leaf", 5)]) rfl sc__law_answer.nd rfl rfl (sw_true rfl rfl rfl (by decide +kernel)) (pi_listK (K := K) rfl (pv 3)) (blkOk_by (by kernel_rfl)) (fun _ _ _ _ _ => (pg_name (i := 5) sc__law_answer.nd rfl (by first | exact .inl rfl | exact .inr rfl))) (fun _ _ _ _ _ => pts_one (pt_chain op_leU op_leU (pe_ix (ix_K (K := K) rfl) (pv 1) (pe_int) (fun _ _ => rfl)) (pe_ix (ix_K (K := K) rfl) (pv 5) (pe_int) (fun _ _ => rfl)) (pe_ix (ix_K (K := K) rfl) (pv 1) (pe_int) (fun _ _ => rfl)))) (fun _ _ _ _ _ => (pv 5)))
    (pss_one (ps_ret (pe_tup (pa_cons (pe_callB (call_lenK (K := K) rfl) (by rfl) T.len PySem.boot_len (pa_cons (pv 6) pa_nil)) (pa_cons (pe_callD h__law_sums (hr.mono (by omega)) rfl (pa_cons (pv 6) pa_nil)) pa_nil)))))) pss_nil)
    (pss_cons (ps_if (pt_cmpR op_eq (pe_ix (ix_K (K := K) rfl) (pv 1) (pe_int) (fun _ _ => rfl)) (pe_str) (nomark _)) (pss_one (ps_ret (pe_callB (call_lenK (K := K) rfl) (by rfl) T.len PySem.boot_len (pa_cons (pe_lc (own := [("_law_name_here", 4)]) rfl sc__law_answer.nd (pi_listK (K := K) rfl (pv 2)) (blkOk_by (by kernel_rfl)) (fun _ _ _ _ _ => (pg_name (i := 4) sc__law_answer.nd rfl (by first | exact .inl rfl | exact .inr rfl))) (fun _ _ _ _ _ => pts_one (pt_cmpR op_ltU (pv 4) (pe_ix (ix_K (K := K) rfl) (pv 1) (pe_int) (fun _ _ => rfl)) (nomark _))) (fun _ _ _ _ _ => (pv 4))) pa_nil)))) pss_nil)
    (pss_cons (ps_if (pt_cmpR op_eq (pe_ix (ix_K (K := K) rfl) (pv 1) (pe_int) (fun _ _ => rfl)) (pe_str) (nomark _)) (pss_one (ps_ret (pe_ix (ix_K (K := K) rfl) (pe_op (op_addK (K := K) rfl) (pv 2) (pe_op op_mulU (pe_lst (pa_cons (pe_non) pa_nil)) (pe_op (op_addK (K := K) rfl) (pe_ix (ix_K (K := K) rfl) (pv 1) (pe_int) (fun _ _ => rfl)) (pe_int)))) (pe_ix (ix_K (K := K) rfl) (pv 1) (pe_int) (fun _ _ => rfl)) (fun _ _ => rfl)))) pss_nil)
    (pss_one (ps_ret (pe_ix (ix_K (K := K) rfl) (pe_op (op_addK (K := K) rfl) (pe_lc (own := [("_law_name_here", 4)]) rfl sc__law_answer.nd (pi_listK (K := K) rfl (pv 2)) (blkOk_by (by kernel_rfl)) (fun _ _ _ _ _ => (pg_name (i := 4) sc__law_answer.nd rfl (by first | exact .inl rfl | exact .inr rfl))) (fun _ _ _ _ _ => pts_one (pt_cmpR op_gtU (pv 4) (pe_ix (ix_K (K := K) rfl) (pv 1) (pe_int) (fun _ _ => rfl)) (nomark _))) (fun _ _ _ _ _ => (pv 4))) (pe_lst (pa_cons (pe_non) pa_nil))) (pe_int) (fun _ _ => rfl))))))))))))), ?_⟩
  rintro ds d ⟨k, ls, ss, q, hok, hl, hnd, hs, hq, hsm, rfl, rfl⟩
  have hss : ss.length = ls.length := hs.perm.length_eq
  have oks : ∀ l ∈ ss, LfOk k l := fun l h => hok l (hs.perm.mem_iff.mp h)
  have lss : (ss.map encL).length = ss.length := List.length_map _
  have lsn : (ss.map encN).length = ss.length := List.length_map _
  refine xs_seq (xs_set (XE.to (xe_cb (xa_cons (xe_var rfl) xa_nil) (xc_sortedD (zs := ss.map Lf.nm) (by rw [kvsOf_len]; omega) (by rw [kvs_names]; exact hs.uniq))) (congrArg D.lst (names_D ss)))) ?_
  refine xs_seq (xs_set (xe_mapl encN encL (xi_list (xe_var rfl)) (by omega) fun l hl => xe_dget (xe_var rfl) (xe_var rfl) (by rw [getK_kvs, getL_mem hnd (hs.perm.mem_iff.mp hl)]; rfl))) ?_
  cases q with
  | several l =>
    obtain ⟨hl1, hm⟩ : l.length ≤ 1000 ∧ ∀ x ∈ l, Nm x := hq
    refine xs_ifs (b := false) (XT.to (by walk_at "x") (by decide +kernel)) (fun h => (by cases h)) fun _ => xs_nseq ?_
    refine xs_ifs (b := true) (XT.to (by walk_at "x") (by decide +kernel)) (fun _ => xs_seqr ?_) fun h => (by cases h)
    have e : encA (lawA k ls ss (.several l)) = .tup (l.map fun x => encA (optA (getL ls x))) := by
      show D.tup (encAs (l.map fun x => optA (getL ls x))) = _
      rw [encAs_map]
    rw [e]
    refine xs_ret (xe_cb (xa_cons (xe_mapl D.str (fun x => encA (optA (getL ls x))) (xi_tup (by walk_at "x")) (by omega) fun x hx => ?_) xa_nil) xc_tupL)
    exact xe_call (by walk_at "x") ⟨k, ls, ss, .leaf x, hok, hl, hnd, hs, hm x hx, trivial, trivial, rfl, rfl⟩
  | leaf x =>
    refine xs_ifs (b := true) (XT.to (by walk_at "x") (by decide +kernel)) (fun _ => xs_seqr ?_) fun h => (by cases h)
    refine xs_seq (xs_set (xe_dget1 (xe_var rfl) (by walk_at "x"))) ?_
    rw [getK_kvs]
    show XS K _ _ (.rt (encA (optA (getL ls x))))
    cases e : getL ls x with
    | none =>
      refine xs_ifs (b := true) (XT.to (by walk_at "x") (show D.isN ((Option.map encL none).getD .non) = true from rfl)) (fun _ => xs_seqr ?_) fun h => (by cases h)
      walk_at "ret"
    | some l =>
      refine xs_ifs (b := false) (XT.to (by walk_at "x") (show D.isN ((Option.map encL (some l)).getD .non) = false from rfl)) (fun h => (by cases h)) fun _ => xs_nseq ?_
      show XS K _ [_, _, _, _, _, some (encL l), _] _
      walk_at "ret"
  | count =>
    walk_at "if0"
    walk_at "if0"
    walk_at "if1"
    refine xs_ret' (by walk_at "x") ?_
    rw [lsn]
    rfl
  | total =>
    walk_at "if0"
    walk_at "if0"
    walk_at "if0"
    walk_at "if1"
    refine xs_ret' (xe_call (by walk_at "x") ⟨k, ss, oks, by omega, rfl, rfl⟩) (encA_optS _).symm
  | range x y =>
    walk_at "if0"
    walk_at "if0"
    walk_at "if0"
    walk_at "if0"
    walk_at "if1"
    have lf : (ss.filter (inR x y)).length ≤ ss.length := List.length_filter_le _ _
    refine xs_seq (xs_set (xe_filter encL encL (inR x y) (xi_list (xe_var rfl)) (by omega) fun l hl => ⟨xt_test (xe_chain (by walk_at "x") (by walk_at "x") xr_leS (fun _ => by walk_at "x") fun _ => xr_leS), fun _ => xe_var rfl⟩)) ?_
    refine xs_ret' (xe_tup (xa_cons (by walk_at "x") (xa_cons (xe_call (by walk_at "x") ⟨k, ss.filter (inR x y), fun l h => oks l (List.mem_filter.mp h).1, by omega, rfl, rfl⟩) xa_nil)) (by show 2 ≤ 100000; decide)) ?_
    rw [List.length_map]
    rfl
  | rank x =>
    walk_at "if0"
    walk_at "if0"
    walk_at "if0"
    walk_at "if0"
    walk_at "if0"
    walk_at "if1"
    refine xs_ret' (xe_cb (xa_cons (xe_filter encN encN (ltN x) (xi_list (xe_var rfl)) (by omega) fun l hl => ⟨xt_test (xe_op (xe_var rfl) (by walk_at "x") xr_ltS), fun _ => xe_var rfl⟩) xa_nil) xc_lenL) ?_
    rw [List.length_map]
    rfl
  | place n =>
    have h0 : 0 ≤ n := hq
    have h1 : n ≤ 1000 := hsm
    walk_at "if0"
    walk_at "if0"
    walk_at "if0"
    walk_at "if0"
    walk_at "if0"
    walk_at "if0"
    walk_at "if1"
    refine xs_ret (xe_op (xe_op (xe_var rfl) (xe_op (xe_lst (xa_cons xe_non xa_nil) (by show 1 ≤ 100000; decide)) (by walk_at "x") (xr_rep1 (by omega))) (xr_addL ?_)) (by walk_at "x") (xr_ixLi h0 ?_))
    · rw [List.length_replicate]
      omega
    · show (ss.map encN ++ List.replicate (n + 1).toNat D.non)[n.toNat]? = some (encA (optN ss[n.toNat]?))
      by_cases c : n.toNat < ss.length
      · rw [List.getElem?_append_left (by omega), List.getElem?_map, List.getElem?_eq_getElem c]
        rfl
      · rw [List.getElem?_append_right (by omega), List.getElem?_replicate, if_pos (by omega), List.getElem?_eq_none (by omega)]
        rfl
  | next x =>
    walk_at "if0"
    walk_at "if0"
    walk_at "if0"
    walk_at "if0"
    walk_at "if0"
    walk_at "if0"
    walk_at "if0"
    have lf : (ss.filter (gtN x)).length ≤ ss.length := List.length_filter_le _ _
    refine xs_ret (xe_op (xe_op (xe_filter encN encN (gtN x) (xi_list (xe_var rfl)) (by omega) fun l hl => ⟨xt_test (xe_op (xe_var rfl) (by walk_at "x") xr_gtS), fun _ => xe_var rfl⟩) (by walk_at "x") (xr_addL ?_)) xe_int (xr_ixLi (by decide) ?_))
    · rw [List.length_map]
      show (ss.filter (gtN x)).length + 1 ≤ 100000
      omega
    · show ((ss.filter (gtN x)).map encN ++ [D.non])[0]? = some (encA (optN (ss.filter (gtN x)).head?))
      cases ss.filter (gtN x) with
      | nil => rfl
      | cons a r => rfl
end
end SG

namespace SG
open PySem PySem.Spec PyProof.Rows L2
open PySem.W (Frag ksFn ksEnv KxsFacts kxs_ValueError)

/-! ### an own exception over a class over ValueError, whose __init__ says super().__init__('..') and keeps one field -/
abbrev xiBody (msg fl par : Str) (p0 p1 p2 p3 p4 p5 p6 p7 p8 p9 : Pos) (j : Nat) : List Stmt :=
  [.Expr (.Call (.Attribute (.Call (.Name "super" p0) [] [] p1) "__init__" p2) [.Constant (.str msg) j p3] [] p4) p5, .Assign [.Attribute (.Name "self" p6) fl p7] (.Name par p8) p9]
def spX (C : Addr) (fl : Str) : Sp := fun vs H Q _ => ∃ a y, vs = [.ref a, y] ∧ H a = some (exo a C none) ∧ ∀ dx, H dx = none → dx ≠ a → Q .non (upd (upd H dx (exd dx [(fl, y)])) a (exo a C (some dx)))

section
variable {P : Program} {w : World} {K : PySem.W.Frag} {mg : Str → Option Value} {base : Heap}
theorem xi_inv {CX : CXT} {A : Around} {outer : List Env} {s s' : Shared} {H : Hp} {E : XK} {qual : Str} {scope : Scope} {f a C cc cda t1 : Addr} {m : Str → Option Value} {o : Option Value} {k : Nat}
    (e0 : Env0 P w K mg base A outer s H) (hr : Room k A) (hk : scope.kind = .function) (hfree : ∀ x, (scope.names.lookup x = some .cell ∨ scope.names.lookup x = some .free) → x = "__class__")
    (hcb : ∃ ocell, base.get? cc = some ocell ∧ ocell.data = .cell o)
    (ea : H a = some (exo a C none)) (kk : ∀ b o, b ≠ a → s.heap.get? b = some o → s'.heap.get? b = some o) (ha : s'.heap.get? a = some (PySem.HandSPX.excO C t1)) (hns : s'.heap.Ns s.heap.objs.size m)
    (hos : s'.os = s.os) (hg : s'.gens = s.gens) :
    Inv { cxOf CX P w K mg base [] qual scope f (.ref cda) A outer s H E with
      env := ksEnv qual scope s.heap.objs.size f (.ref cda) cc, A := A.deeper (ksEnv qual scope s.heap.objs.size f (.ref cda) cc), stack := ksEnv qual scope s.heap.objs.size f (.ref cda) cc :: outer, fn := fun _ => false, xe := fun _ _ => False } [] [] H s' := by
  obtain ⟨ocell, hcell, hcd⟩ := hcb
  have hlk : ∀ x c, (ksEnv qual scope s.heap.objs.size f (.ref cda) cc).cells.lookup x = some c → x = "__class__" ∧ c = cc := fun x c h => by
    have h' : List.lookup x [(("__class__" : Str), cc)] = some c := h
    by_cases e : x = "__class__"
    · subst e
      simp only [List.lookup, beq_self_eq_true] at h'
      exact ⟨rfl, (Option.some.inj h').symm⟩
    · have e' : (x == ("__class__" : Str)) = false := by simpa using e
      simp only [List.lookup, e'] at h'
      cases h'
  have hca : cc ≠ a := fun z => by
    have := (e0.bs _ _ hcell).2
    rw [z, ea] at this
    cases this
  have hns' : ∀ b, H b = none → b ≠ a := fun b n z => by rw [z, ea] at n; cases n
  refine { ok := ?_, os := hos, bare := by rw [hg]; exact e0.bare, base := ?_, loc := ⟨m, hns, fun i x v h1 => ?_⟩, cell := fun x c h => ?_, free := e0.hok.fresh (Nat.le_refl _), freeC := fun x c h => ?_, pin := fun p hp => absurd (show p ∈ ([] : List (Addr × Obj)) from hp) (by simp), hok := ?_, len := rfl }
  · exact { mod := e0.mod, kind := hk, glob := rfl, blt := rfl, above := Nat.le_refl _, inj := fun x y c h1 h2 => by rw [(hlk _ _ h1).1, (hlk _ _ h2).1], has := fun x hx => by
              have := hfree x hx
              subst this
              exact ⟨cc, by show List.lookup _ [(("__class__" : Str), cc)] = _; simp [List.lookup]⟩,
            cab := fun x c h => absurd (show false = true from h) (by decide), hd := fun _ => hr.hd, frames := Around.frames_deeper e0.frames, stk := .inr ⟨rfl, rfl⟩, exf := fun b z => absurd (show b ∈ ([] : List Addr) from z) (by simp), bs := e0.bs, bsz := e0.bsz,
            noex := fun b _ _ z => absurd (show b ∈ ([] : List Addr) from z) (by simp), exfs := fun b z => absurd (show b ∈ ([] : List Addr) from z) (by simp), funs := e0.funs, frf := e0.frf }
  · exact { keep := fun b o e n _ _ => kk b o (hns' b n) e, slot := fun b o e n _ _ => ⟨o.slots, kk b o (hns' b n) e⟩, free := fun b o e n _ => n,
            there := fun b o e _ => by
              by_cases z : b = a
              · exact ⟨_, by rw [z]; exact ha⟩
              · exact ⟨o, kk b o z e⟩,
            tups := fun b xs q => q, frzs := fun b o v q => q, tbls := fun b ps q => ⟨#[], by rw [Array.append_empty]; exact q⟩ }
  · cases h1
  · obtain ⟨-, rfl⟩ := hlk _ _ h
    exact ⟨o, ocell, kk _ _ hca (e0.bs _ _ hcell).1, hcd⟩
  · obtain ⟨-, rfl⟩ := hlk _ _ h
    exact (e0.bs _ _ hcell).2
  · intro b ob e
    by_cases z : b = a
    · subst z
      rw [ea] at e
      cases e
      exact exo_ok ha
    · exact (e0.hok b ob e).stay (fun c v hc y => kk c v (by
          rcases hc with hc | hc
          · rw [hc]; exact z
          · exact at_ne ea hc exo_own) y) (fun c hc => hc) (fun c xs hc => hc)

/-- what the written part says of such a class and its __init__ -/
structure XiK (P : Program) (K : PySem.W.Frag) (mg : Str → Option Value) (C f : Addr) (qual msg fl par : Str) (params : Arguments) (scope : Scope) (fd : FuncData) : Prop where
  ex : ∃ (oc cl ccl cdv ct dV kV doc pm : Value) (od cld cdd an : Option Addr) (osl csl ccs : Array (Option Value)) (cc cda : Addr) (vs : Array Value) (file : Str) (tf : Tok) (p0 p1 p2 p3 p4 p5 p6 p7 p8 p9 : Pos) (j : Nat) (pl : Sem Bool),
    fd = ksFn "__init__" qual params (xiBody msg fl par p0 p1 p2 p3 p4 p5 p6 p7 p8 p9 j) scope dV kV doc pm an (.ref cda) ct cc ∧
    K.lookup f = some ⟨oc, od, .func fd, osl⟩ ∧ PySem.W.codeIn K (.ref cda) qual = true ∧ K.lookup cc = some ⟨cl, cld, .cell (some (.ref C)), csl⟩ ∧ K.lookup cda = some ⟨ccl, cdd, .fields vs, ccs⟩ ∧ vs[2]? = some (.str file tf) ∧ ((P.main.file : Str) == file) = true ∧
    ∀ env : PySem.Env, eval (.Call (.Attribute (.Call (.Name "super" p0) [] [] p1) "__init__" p2) [.Constant (.str msg) j p3] [] p4) env = (do
      let ov ← attributeBase (.Call (.Name "super" p0) [] [] p1) "__init__" env (eval (.Call (.Name "super" p0) [] [] p1) env)
      standAt p2.atName
      let (f, first) ← holding [ov] (getMethod ov "__init__" pl)
      callWith p4 f first (backTo p4 (starEach [.Constant (.str msg) j p3] env)) [])
  exC : OexC K C
  iK : PySem.W.excInitIn K C [.type "ValueError", .type "Exception", .type "BaseException", .type "object"] "ValueError.__new__" = true
  sup : PySem.W.ks_superIn K C C "__init__" = some (some (.builtin "ValueError.__init__"))
  sub : PySem.W.subIn K (.ref C) (.type "ValueError") = some true
  mroC : PySem.W.mroIn K C (.ref C) = some true
  nof : PySem.W.findIn K (.ref C) fl = some none
  stat : PySem.W.nsIn K PySem.cStatics "thirdparty.any" = some none
  sup0 : mg "super" = none
  kind : scope.kind = .function
  co : scope.isCoroutine = false
  gen : scope.isGenerator = false
  cell : ∀ x ∈ scope.names, x.2 ≠ .cell
  fre : ∀ x, (scope.names.lookup x = some .cell ∨ scope.names.lookup x = some .free) → x = "__class__"
  nSup : scope.names.lookup ("super" : Str) = some .globalImplicit
  nCls : scope.names.lookup ("__class__" : Str) = some .free
  nSelf : scope.names.lookup ("self" : Str) = some .local
  nPar : scope.names.lookup par = some .local
  nps : par ≠ "self"
  npd : (par == ("__debug__" : Str)) = false
  hp : (params.posonlyargs ++ params.args).head?.map (·.arg) = some "self"
  top : (P.main.scope.names.lookup ("super" : Str)).isSome = false

theorem xi_fn {CX : CXT} {C f : Addr} {qual msg fl par : Str} {params : Arguments} {scope : Scope} {fd : FuncData} {k : Nat} (T : XiK P K mg C f qual msg fl par params scope fd) :
    FnOk P w K mg base CX (k + 1) f fd ["self", par] (spX C fl) := by
  obtain ⟨oc, cl, ccl, cdv, ct, dV, kV, doc, pm, od, cld, cdd, an, osl, csl, ccs, cc, cda, vs, file, tf, p0, p1, p2, p3, p4, p5, p6, p7, p8, p9, j, pl, rfl, lk, hcd, hcc, hcda, hvs, hfile, he⟩ := T.ex
  refine ⟨fun vs H Q E q => ?_, fun A outer s H args us vs' Q E hr e0 hb r hsp => ?_⟩
  · obtain ⟨a, y, rfl, _⟩ := q
    rfl
  obtain ⟨a, y, rfl, ea, hq⟩ := hsp
  obtain ⟨ua, uy, rfl, ra, ry⟩ : ∃ ua uy, us = [ua, uy] ∧ RelV (.ref a) ua ∧ RelV y uy := by
    cases r with
    | cons r1 r2 =>
      cases r2 with
      | cons r3 r4 =>
        cases r4
        exact ⟨_, _, rfl, r1, r3⟩
  obtain rfl : ua = Value.ref a := ra
  have stands : ∀ b o, base.get? b = some o → s.heap.get? b = some o := fun b o e => (e0.bs b o e).1
  have kNow : K.In s.heap := e0.mod.kin.keeps stands
  have noLim := e0.mod.nolimit.keeps stands
  obtain ⟨t1, ho⟩ := exo_at e0.hok ea
  have bsa : ∀ b o, base.get? b = some o → b ≠ a := fun b o e z => by
    have := (e0.bs b o e).2
    rw [z, ea] at this
    cases this
  have hK0 : K.In (PySem.W.hideAll s.heap [a]) := fun b o e => PySem.W.hideAll_get _ (kNow _ _ e) (by
    simp only [List.mem_singleton]
    exact bsa _ _ (e0.mod.kin _ _ e))
  have hkd : ∀ b o, base.get? b = some o → (PySem.W.hideAll s.heap [a]).get? b = some o := fun b o e => PySem.W.hideAll_get _ (e0.bs b o e).1 (by
    simp only [List.mem_singleton]
    exact bsa _ _ e)
  refine ks_codeAny_call_defAt (fd := ksFn "__init__" qual params (xiBody msg fl par p0 p1 p2 p3 p4 p5 p6 p7 p8 p9 j) scope dV kV doc pm an (.ref cda) ct cc) hr.depth (kNow _ _ lk) rfl noLim (PySem.W.codeRec_of kNow hcd) rfl hb T.cell (fun x hx => ?_) (fun h₁ hns hk₁ => ?_) T.co T.gen T.kind
  · simp only [List.zip_cons_cons, List.zip_nil_right, List.mem_cons, List.not_mem_nil, or_false] at hx
    rcases hx with rfl | rfl
    · exact T.nSelf
    · exact T.nPar
  show _root_.PySem.wpAt (model P w) (A.deeper (ksEnv qual scope s.heap.objs.size f (.ref cda) cc)) (.func (xiBody msg fl par p0 p1 p2 p3 p4 p5 p6 p7 p8 p9 j) (ksEnv qual scope s.heap.objs.size f (.ref cda) cc)) (execs (xiBody msg fl par p0 p1 p2 p3 p4 p5 p6 p7 p8 p9 j) (ksEnv qual scope s.heap.objs.size f (.ref cda) cc)) _ _ _
  have asz : a < s.heap.objs.size := Heap.lt_size ho
  have F : Fr (PySem.W.hideAll s.heap [a]) s.heap.objs.size h₁ (fun x => ([(PySem.Str.ofString "self"), par].zip [Value.ref a, uy]).reverse.lookup x) := ⟨hns, fun b o e => hk₁ b o (PySem.W.of_hideAll _ e), Nat.le_of_eq (PySem.W.hideAll_size _ _)⟩
  have N : News (PySem.W.hideAll s.heap [a]) s.heap.objs.size h₁ [(a, PySem.W.excObj C t1 none .none)] := fun p hp => by
    simp only [List.mem_singleton] at hp
    subst hp
    exact ⟨hk₁ _ _ ho, Nat.ne_of_lt asz, PySem.W.hideAll_none _ (by simp)⟩
  have mSelf : ([(PySem.Str.ofString "self"), par].zip [Value.ref a, uy]).reverse.lookup ("self" : Str) = some (.ref a) := by
    have e : (("self" : Str) == par) = false := by simpa using fun z => T.nps z.symm
    simp [List.lookup, e]
  have mPar : ([(PySem.Str.ofString "self"), par].zip [Value.ref a, uy]).reverse.lookup par = some uy := by
    simp [List.lookup]
  have hmodg := e0.mod.glob.keeps hkd
  obtain ⟨mb, hmb, hmb2⟩ := e0.mod.blt
  have hmbk := hmb.keeps hkd
  have hpar : ∃ ar : Arg, (params.posonlyargs ++ params.args).head? = some ar ∧ ar.arg = "self" := by
    have h := T.hp
    cases z : (params.posonlyargs ++ params.args).head? with
    | none => rw [z] at h; cases h
    | some ar =>
      rw [z] at h
      exact ⟨ar, rfl, Option.some.inj h⟩
  obtain ⟨ar, har, hars⟩ := hpar
  have KF : ∀ {h : Heap} {m : Str → Option Value}, Fr (PySem.W.hideAll s.heap [a]) s.heap.objs.size h m → K.In h := fun F => hK0.keeps F.keep
  obtain ⟨nm, qn, N0, bs, bm, sn, sub, ab, col, dd, k0, k1, k2, k3, k5, hC, hbm⟩ := T.exC.cls
  have hCd : PySem.W.clsIn K C = some { name := nm, bases := bs, mro := .ref C :: bm, ns := N0, qualname := qn, hasDict := true, slotNames := sn, subclasses := sub, abstract := ab, collection := col, hasDel := false } := by unfold PySem.W.clsIn; rw [hC] <;> rfl
  have IA : ∀ {h : Heap} {t : Addr}, h.get? a = some (PySem.W.excObj C t none .none) → PySem.W.InstAt h a (PySem.W.excObj C t none .none) C none := fun e => ⟨e, rfl, rfl, trivial⟩
  refine ks_wpAt_execs_cons (ks_wpAt_Expr_any (ks_wpAt_MethodCall ?_ (he _)) (by unfold interactive; simp [T.kind]) (by rfl))
  refine ks_wpAt_super_base (env := ksEnv qual scope s.heap.objs.size f (.ref cda) cc) (f := f) T.nSup T.nCls rfl rfl (KF F _ _ lk) rfl har rfl (KF F _ _ hcda) rfl hvs hfile T.top ?_
  refine PySem.W.ks_loadName_global T.kind T.nSup (Calls.loadGlobal_builtin (env := ksEnv qual scope s.heap.objs.size f (.ref cda) cc) (hmodg.keeps F.keep) T.sup0 (hmbk.keeps F.keep) ((hmb2 "super" (by decide +kernel)).trans (by first | rfl | kernel_rfl)) ⟨rfl, ?_⟩)
  refine wpAny_loadName_free T.kind T.nCls rfl ⟨_, KF F _ _ hcc, rfl⟩ ?_
  refine wpAny_loadName_local T.kind (by rw [hars]; exact T.nSelf) F.ns (by rw [hars]; exact mSelf) ?_
  refine ks_wpAny_isType_cls (KF F _ _ hC) rfl ⟨rfl, ?_⟩
  refine ks_wpAny_call_super (KF F _ _ hC) rfl (hk₁ _ _ ho) rfl (fun c e => by cases e) (PySem.W.looks_mroIn (KF F) T.mroC) (fun h2 e2 k2 => ?_)
  obtain ⟨F2, N2, l2⟩ := PySem.W.ks_newsPush (s := ⟨h₁, s.gens, s.drawn, s.toks + 2, s.os⟩) F N rfl e2 k2
  refine PySem.W.kxs_method (s := ⟨h2, s.gens, s.drawn, s.toks + 2, s.os⟩) kxs_ValueError F2 hK0 N2 (List.mem_cons_self ..) (IA (N2 (a, PySem.W.excObj C t1 none .none) (by simp)).1) T.stat T.sup T.sub rfl (fun q h3 F3 N3 l3 => ?_)
  refine PySem.W.kxs_callWith1 N3 (List.mem_cons_self ..) (Calls.spliced_cons (Calls.Constant_str (k := j) (pos := p3) (Calls.spliced_nil ⟨(N3 _ (List.mem_cons_self ..)).1, ?_⟩))) (by rfl) (by rfl)
  have nqa : q ≠ a := fun z => absurd (l3 (a, PySem.W.excObj C t1 none .none) (by simp)) (by rw [z]; exact Nat.lt_irrefl _)
  have nsa : h₁.objs.size ≠ a := fun z => absurd (l2 (a, PySem.W.excObj C t1 none .none) (by simp)) (by rw [← z]; exact Nat.lt_irrefl _)
  refine PySem.W.kxs_call (s := ⟨h3, s.gens, s.drawn, s.toks + 2 + 1 + 1, s.os⟩) F3 hK0 N3 PySem.F.excBase_ValueError T.iK (List.mem_cons_self ..) (.tail nqa (.tail nsa (.head fun p hp => by cases hp))) (by rw [sizeLine_eq]; simp) (fun t4 h4 F4 N4 l4 => ?_)
  have ha4 : h4.get? a = some (PySem.HandSPX.excO C t4) := (N4 (a, PySem.W.excObj C t4 none .none) (by simp)).1
  have kk : ∀ b o, b ≠ a → s.heap.get? b = some o → h4.get? b = some o := fun b o z e => F4.keep b o (PySem.W.hideAll_get _ e (by simpa using z))
  have hcb : ∃ ocell, base.get? cc = some ocell ∧ ocell.data = .cell (some (.ref C)) := ⟨_, e0.mod.kin _ _ hcc, rfl⟩
  dsimp only
  refine ks_wpAt_execs_cons (ks_wpAt_Assign_Attr (wpAt_of_wpAny (PySem.ESX.ldL F4.ns mPar ?_ T.kind T.nPar T.npd)) (by rfl))
  refine PySem.ESX.ldL F4.ns mSelf ?_ T.kind T.nSelf (by decide +kernel)
  refine ost_new T.exC (xi_inv (s := s) (s' := ⟨h4, s.gens, s.drawn, s.toks + 2 + 1 + 1, s.os⟩) (CX := CX) (E := E) (cda := cda) (f := f) (qual := qual) (k := k + 1) e0 hr T.kind T.fre hcb ea kk ha4 F4.ns rfl rfl) ea T.nof ry fun dx s' n ne J => ?_
  exact wpAt_of_wpAny (wpAny_pure ⟨.non, _, J.os, J.bare, J.base, J.hok, rfl, hq dx n ne⟩)
end
end SG

namespace SG
open PySem L2
local macro_rules | `(tactic| walk_at "xR") => `(tactic| first
  | ((with_reducible show Rnum _ _); exact ⟨_, by assumption, rfl, rfl⟩)
  | ((with_reducible show Rbit _ _); exact ⟨_, _, by assumption, by first | assumption | decide | omega, rfl, rfl⟩)
  | ((with_reducible show Rpart _ _); exact ⟨_, _, by assumption, by assumption, rfl, rfl⟩)
  | ((with_reducible show Risn _ _); exact ⟨_, by assumption, rfl, rfl⟩)
  | ((with_reducible show Rleast _ _); exact ⟨_, _, by assumption, rfl, rfl⟩)
  | ((with_reducible show Rgreat _ _); exact ⟨_, _, by assumption, rfl, rfl⟩)
  | ((with_reducible show RlfRow _ _); exact ⟨_, _, by assumption, rfl, rfl⟩)
  | ((with_reducible show RsmNums _ _); exact ⟨_, _, by assumption, rfl, rfl⟩)
  | ((with_reducible show RbrRow _ _); exact ⟨_, _, _, by assumption, by assumption, rfl, rfl⟩)
  | ((with_reducible show RbrSm _ _ _); exact ⟨_, _, _, _, by assumption, by assumption, by assumption, rfl, rfl⟩)
  | ((with_reducible show Rworths _ _); exact ⟨_, by assumption, by assumption, rfl, rfl⟩)
  | ((with_reducible show Rnotes _ _); exact ⟨_, by assumption, by assumption, rfl, rfl⟩)
  | ((with_reducible show RisLeaf _ _); exact ⟨_, _, by assumption, rfl, rfl⟩)
  | ((with_reducible show RareSides _ _); exact ⟨_, _, _, by assumption, by assumption, rfl, rfl⟩)
  | ((with_reducible show RisIn _ _); exact ⟨_, _, _, _, by assumption, by assumption, rfl, rfl⟩)
  | ((with_reducible show Rsl _ _ _); exact ⟨_, _, by assumption, by first | assumption | omega, rfl, rfl⟩)
  | ((with_reducible show Rsumm _ _ _ _); exact ⟨_, _, _, by assumption, by assumption, by first | assumption | omega, rfl, rfl⟩)
  | ((with_reducible show Rtop _ _ _ _); exact ⟨_, _, _, by assumption, by assumption, rfl, rfl⟩)
  | ((with_reducible show Rroot _ _ _ _); exact ⟨_, _, _, by assumption, by assumption, rfl, rfl⟩)
  | ((with_reducible show Rkinds _ _ _); exact ⟨_, _, by assumption, by first | assumption | omega, rfl, rfl⟩)
  | ((with_reducible show Rvalid _ _ _ _); exact ⟨_, _, _, by assumption, by first | assumption | omega, rfl, rfl⟩)
  | ((with_reducible show Rorder _ _ _); exact ⟨_, _, by assumption, by first | assumption | omega, rfl, rfl⟩)
  | ((with_reducible show Rwf _ _ _ _); exact ⟨_, _, _, by assumption, rfl, rfl⟩)
  | ((with_reducible show RleafT _ _); exact ⟨_, _, _, by assumption, by assumption, rfl, rfl⟩)
  | ((with_reducible show RrangeT _ _); exact ⟨_, _, _, _, by assumption, by assumption, by assumption, rfl, rfl⟩)
  | ((with_reducible show RrankT _ _); exact ⟨_, _, _, by assumption, by assumption, rfl, rfl⟩)
  | ((with_reducible show RplaceT _ _); exact ⟨_, _, _, by assumption, rfl, rfl⟩)
  | ((with_reducible show RnextT _ _); exact ⟨_, _, _, by assumption, by assumption, rfl, rfl⟩)
  | ((with_reducible show Rtold _ _); exact ⟨_, _, _, by assumption, by assumption, by assumption, rfl, rfl⟩)
  | ((with_reducible show RsideQ _ _); exact ⟨_, _, _, _, by assumption, by assumption, by assumption, rfl, rfl⟩)
  | ((with_reducible show Rjoin _ _); exact ⟨_, _, _, _, _, by assumption, by assumption, by assumption, rfl, rfl⟩)
  | ((with_reducible show Rempty _ _); exact ⟨_, by assumption, rfl, rfl⟩)
  | ((with_reducible show Rask0 _ _ _ _); exact ⟨_, _, _, _, by assumption, by assumption, by assumption, by assumption, rfl, rfl⟩)
  | ((with_reducible show Rcell _ _); exact ⟨_, _, by assumption, by first | assumption | omega, rfl, rfl⟩)
  | ((with_reducible show Rname _ _); exact ⟨_, rfl, rfl⟩)
  | ((with_reducible show Rmod _ _); exact ⟨_, rfl, rfl⟩)
  | ((with_reducible show Rlsl _ _); exact ⟨_, _, by assumption, by first | assumption | omega, rfl, rfl⟩)
  | ((with_reducible show Rlrow _ _ _); exact ⟨_, _, _, by assumption, by assumption, by first | assumption | omega, rfl, rfl⟩)
  | ((with_reducible show Rlsum _ _ _); exact ⟨_, _, _, by assumption, by assumption, by first | assumption | omega, rfl, rfl⟩)
  | ((with_reducible show Rltop _ _ _); exact ⟨_, _, _, by assumption, by assumption, rfl, rfl⟩)
  | ((with_reducible show Rlroot _ _ _); exact ⟨_, _, _, by assumption, by assumption, rfl, rfl⟩)
  | ((with_reducible show Rbits _ _); exact ⟨_, by assumption, rfl, rfl⟩)
  | ((with_reducible show Rquest _ _); exact ⟨_, rfl, rfl⟩)
  | ((with_reducible show Rsums _ _); exact ⟨_, _, by assumption, by first | assumption | omega, rfl, rfl⟩)
  | skip)
local macro_rules | `(tactic| walk_at "sub") => `(tactic| repeat first | exact sub_nil | refine sub_none ?_ | refine sub_same ?_)
local macro_rules | `(tactic| walk_at "xl") => `(tactic| first | decide | (simp only [List.length_cons, List.length_nil, List.length_append, List.length_map]; omega) | skip)
local macro_rules | `(tactic| walk_at "xr") => `(tactic| first
  | with_reducible exact xr_addI | with_reducible exact xr_sub | with_reducible exact xr_eqS | with_reducible exact xr_eqI | with_reducible exact xr_isN | with_reducible exact xr_notN
  | with_reducible exact xr_ltI | with_reducible exact xr_leI | with_reducible exact xr_gtI | with_reducible exact xr_geI | with_reducible exact xr_neS | with_reducible exact xr_neI
  | with_reducible exact xr_ltS | with_reducible exact xr_leS | with_reducible exact xr_gtS | with_reducible exact xr_inC | with_reducible exact xr_xor
  | ((with_reducible apply xr_ixTi); (next => decide); (next => exact rfl))
  | ((with_reducible apply xr_ixLi); (next => decide); (next => exact rfl))
  | ((with_reducible apply xr_addT); walk_at "xl") | ((with_reducible apply xr_addL); walk_at "xl") | ((with_reducible apply xr_addS); walk_at "xl")
  | ((with_reducible apply xr_mulI); first | exact .inl ⟨by decide, by decide⟩ | exact .inr ⟨by decide, by decide⟩ | exact .inl ⟨by omega, by omega⟩ | exact .inr ⟨by omega, by omega⟩ | skip)
  | ((with_reducible apply xr_fdiv); first | exact ⟨by decide, by decide⟩ | exact ⟨by omega, by omega⟩ | skip) | ((with_reducible apply xr_mod); first | assumption | decide | omega | skip) | ((with_reducible apply xr_shr); first | decide | omega | skip)
  | skip)
local macro_rules | `(tactic| walk_at "xc") => `(tactic| first
  | with_reducible exact xc_lenT | with_reducible exact xc_lenL | with_reducible exact xc_lenQ | with_reducible exact xc_int | with_reducible exact xc_abs | with_reducible exact xc_listT | with_reducible exact xc_tupL
  | ((with_reducible apply xc_lenS); first | assumption | omega | skip) | with_reducible exact xc_sum | with_reducible exact xc_all | skip)
local macro_rules | `(tactic| walk_at "xe") => `(tactic| first
  | ((with_reducible apply xe_var); exact rfl) | with_reducible exact xe_int | with_reducible exact xe_str | with_reducible exact xe_non | with_reducible exact xe_bl
  | ((with_reducible apply xe_op) <;> walk_at "x") | ((with_reducible apply xe_tup) <;> walk_at "x") | ((with_reducible apply xe_cb) <;> walk_at "x")
  | ((with_reducible apply xe_call) <;> walk_at "x") | ((with_reducible apply xe_lst) <;> walk_at "x")
  | ((with_reducible apply xe_meth) <;> walk_at "x") | ((with_reducible apply xe_bits) <;> walk_at "x") | ((with_reducible apply xe_not) <;> walk_at "x")
  | ((with_reducible apply xe_and) <;> walk_at "x") | ((with_reducible apply xe_or) <;> walk_at "x") | ((with_reducible apply xe_chain) <;> walk_at "x")
  | ((with_reducible apply xe_slT) <;> walk_at "x") | ((with_reducible apply xe_fld) <;> walk_at "x") | skip)
local macro_rules | `(tactic| walk_at "x") => `(tactic| first
  | ((with_reducible show XE _ _ _ _); walk_at "xe") | ((with_reducible show XR _ _ _ _ _); walk_at "xr") | ((with_reducible show XC _ _ _ _); walk_at "xc")
  | with_reducible exact xa_nil | ((with_reducible apply xa_cons) <;> walk_at "x")
  | ((with_reducible apply xt_test) <;> walk_at "x") | ((with_reducible apply xt_B) <;> walk_at "x") | ((with_reducible apply xt_and) <;> walk_at "x") | ((with_reducible apply xt_or) <;> walk_at "x")
  | ((with_reducible apply xt_not) <;> walk_at "x") | with_reducible exact xt_yes
  | with_reducible exact xo_none | ((with_reducible apply xo_some) <;> walk_at "x")
  | ((with_reducible show List.length _ ≤ 100000); walk_at "xl") | ((with_reducible show (_ == _) = false); decide +kernel) | ((with_reducible show Cls _ _); assumption) | ((with_reducible show NoAttr _ _ _); assumption) | ((with_reducible intro _); walk_at "x") | walk_at "xR")
local macro_rules | `(tactic| walk_at "if0") => `(tactic| (refine xs_ifs (b := false) (XT.to (by walk_at "x") (by decide +kernel)) (fun h => (by cases h)) fun _ => xs_nseq ?_))
local macro_rules | `(tactic| walk_at "if1") => `(tactic| (refine xs_ifs (b := true) (XT.to (by walk_at "x") (by decide +kernel)) (fun _ => xs_seqr ?_) fun h => (by cases h)))
local macro_rules | `(tactic| walk_at "ret") => `(tactic| ((refine xs_ret' (by walk_at "x") ?_); (first | done | rfl | skip)))

/-! ### the own exception, caught: is it an instance of ..? -/
def rIsX (K : PySem.W.Frag) (D a : Addr) (cls : Value) (d : Option Addr) : List V → Hp → VK → Prop := fun xs H Q => cls = .ref D ∧ ∃ (c dd : Addr) (fs : List (Str × V)) (b : Bool), d = some dd ∧ xs = [.ref a, .ref c] ∧ H dd = some (.xd fs) ∧ PySem.W.kitOne K (.ref D) (.ref c) = some b ∧ Q (.bl b) H
theorem call_isX {X : Cx} {a D : Addr} {cls : Value} {d : Option Addr} {oe : Obj} {pn : List (Addr × Obj)} (C : ExcC X.K D) (hz : Zc cls d oe) (hf : ∃ vs, oe.data = .fields vs) : CallR (X.suite a ((a, oe) :: pn)) (.builtin "isinstance") (rIsX X.K D a cls d) := by
  intro pins s σ H xs us Q I r h
  obtain ⟨rfl, c, dd0, fs, b, rfl, rfl, hx, e, q⟩ := h
  cases r with
  | cons rx rr =>
    cases rr with
    | cons rt rr =>
      cases rr
      cases rx
      cases rt
      obtain ⟨hget, _⟩ := I.pin (a, oe) (List.mem_append.mpr (.inl List.mem_cons_self))
      obtain ⟨vs, hv⟩ := hf
      have hx' : ObjOk X.prog X.w H s.heap dd0 (.xd fs) := I.hok dd0 _ hx
      obtain ⟨mA, hns, hr⟩ := hx'
      obtain ⟨od, ho, hl⟩ := lookIn_ns hns
      have J : PySem.W.InstAt s.heap a oe D (some od) := ⟨hget, hz.1, by unfold PySem.W.notCls; rw [hv] <;> rfl, by rw [hz.2]; exact ho⟩
      exact PySem.W.kia_one (PySem.W.kitx_exc (by obtain ⟨cd, hc, _⟩ := PySem.W.any_some C.hd; rw [hc]; rfl) C.hg C.hk C.hs C.ha C.hn C.ht C.hm) I.kIn J e (fun z => nomatch z) fun tk => ⟨.bl b, H, I.kept (t' := tk) fun _ _ z => z, rfl, q⟩

/-! ### the ways on which an exception leaves -/
def XZ (K : PySem.W.Frag) (t : TS) (ρ : DEnv) (F : Hp → Hp → Prop) : Prop := ∀ (σ : L2.St) (G H : Hp) (E : Ends), Same G H → Em K G σ ρ → F G H → t E σ H
/-- what is wished behind: an exception of the class at WR whose field f is the number i -/
def FX (WR : Addr) (f : Str) (i : Int) (E : XK) : Hp → Hp → Prop := fun G H => ∀ d G' H', Gr G H G' H' → H' d = some (.xd [(f, .int i)]) → E (.ref WR) (some d) H'
section
variable {K : PySem.W.Frag} {ρ : DEnv} {WR : Addr} {f : Str} {i : Int} {E : XK}
theorem FX.mono {G H G' H' : Hp} (h : FX WR f i E G H) (s : Gr G H G' H') : FX WR f i E G' H' := fun d G2 H2 s2 q => h d G2 H2 (s.trans s2) q
theorem xz_ifs {c : TT} {t u z : TS} {b : Bool} (h : XT K c ρ b) (h1 : b = true → XZ K (tSeq t z) ρ (FX WR f i E)) (h2 : b = false → XZ K (tSeq u z) ρ (FX WR f i E)) : XZ K (tSeq (tIfS c t u) z) ρ (FX WR f i E) := fun σ G H D k m q =>
  h σ G H k m _ fun G1 H1 s1 => by
    cases b with
    | true => exact h1 rfl σ G1 H1 D s1.ok (m.mono s1.g) (q.mono s1)
    | false => exact h2 rfl σ G1 H1 D s1.ok (m.mono s1.g) (q.mono s1)
theorem xz_nseq {u : TS} {F : Hp → Hp → Prop} (h : XZ K u ρ F) : XZ K (tSeq tNext u) ρ F := fun σ G H D k m q => h σ G H D k m q
theorem xz_seqr {t u : TS} {F : Hp → Hp → Prop} (h : XZ K t ρ F) : XZ K (tSeq t u) ρ F := fun σ G H D k m q => h σ G H { D with nx := u D } k m q
theorem xz_raise {ta : TA} (ha : XA K ta ρ [.int i]) : XZ K (fun _ σ H => tMkO WR (spX WR f) [] ta σ H fun cls d H' => E cls d H') ρ (FX WR f i E) := fun σ G H D k m q =>
  ha σ G H k m _ fun vs G1 H1 s1 d1 => by
    cases d1 with
    | cons h1 h2 =>
      cases h2
      cases h1
      refine ⟨by simp, fun a na => ?_⟩
      refine ⟨a, .int i, rfl, upd_same, fun dx n ne => ?_⟩
      have n1 : H1 dx = none := by rw [← n, upd_ne ne]
      refine ⟨rfl, dx, [(f, .int i)], upd_same, by rw [upd_ne ne, upd_same], n1, ?_⟩
      have eh : upd (del (upd (upd (upd H1 a (exo a WR none)) dx (exd dx [(f, V.int i)])) a (exo a WR (some dx))) a) dx (.xd [(f, V.int i)]) = upd H1 dx (.xd [(f, V.int i)]) := by
        funext b
        by_cases c : b = dx
        · rw [c, upd_same, upd_same]
        · rw [upd_ne c, upd_ne c]
          by_cases c2 : b = a
          · rw [c2, del_same, na]
          · rw [del_ne c2, upd_ne c2, upd_ne c, upd_ne c2]
      rw [eh]
      exact q dx _ _ (s1.trans (Gr.new s1.ok n1 _)) upd_same
end
/-- what the written part says of WrongRoot, at WR -/
structure WrAt (P : Program) (w : World) (K : PySem.W.Frag) (mg : Str → Option Value) (base : Heap) (WR : Addr) : Prop where
  ex : ∃ fI fd, PySem.W.findIn K (.ref WR) "__init__" = some (some (.ref fI)) ∧ PySem.W.typeIn K (.ref fI) = some (.type "function") ∧ FnOk P w K mg base CX0 1 fI fd ["self", "root"] (spX WR "root") ∧ Binds K fd ["self", "root"] []
  oex : OexC K WR
  gW : mg "WrongRoot" = some (.ref WR)
  xf : XfC K WR
  no : PySem.W.findIn K (.ref WR) "root" = some none
  is : ExcC K WR
  exm : PySem.W.exmOne K (.ref WR) (.ref WR) = some true
  gG : ∃ a, mg "GroveError" = some (.ref a) ∧ PySem.W.kitOne K (.ref WR) (.ref a) = some true
  gI : ∃ a, mg "InvalidTree" = some (.ref a) ∧ PySem.W.kitOne K (.ref WR) (.ref a) = some false
  gB : mg "isinstance" = none
theorem pmk_wr {X : Cx} {WR : Addr} {p pos : Pos} {e : Expr} {es : List Expr} {ta : TA} (W : WrAt X.prog X.w X.K X.mg X.base WR) (hr : Room 2 X.A) (hg : Gl X "WrongRoot") (ha : PA X (e :: es) ta)
    (he : starEach (e :: es) X.env = (false, eval e X.env) :: starEach es X.env := by rfl) (hpl : (backTo pos (starEach es X.env)).any (·.1) = false := by rfl) : PMk X (.Call (.Name "WrongRoot" p) (e :: es) [] pos) (tMkO WR (spX WR "root") [] ta) := by
  obtain ⟨fI, fd, h1, h2, h3, h4⟩ := W.ex
  exact pmk_oex W.oex h1 h2 h3 hr h4 .nil pass0 hg W.gW ha (by decide +kernel) he hpl
section
variable {P : Program} {w : World} {K : PySem.W.Frag} {mg : Str → Option Value} {base : Heap} {C eRow WR : Addr} {k : Nat}
def spAns (K : PySem.W.Frag) (C WR : Addr) : Sp := fun vs H Q E => ∃ (G : Hp) (ds : List D) (p r : Int) (k : Nat) (o : Option T) (q : Qn), Same G H ∧ DenL K G vs ds ∧ PM p ∧ OTOk k 20 o ∧ wellF o = true ∧ QnOk q ∧ ds = [.obj C p, .int r, encTo o, encQ q] ∧
  (r = rootOf p o → ∀ z G' H', Gr G H G' H' → Den K G' z (encA (askA p o q)) → Q z H') ∧ (r ≠ rootOf p o → FX WR "root" (rootOf p o) E G H)
/-- .. kept under the name answer -/
structure PrX (P : Program) (w : World) (K : PySem.W.Frag) (mg : Str → Option Value) (base : Heap) (k : Nat) (x : Str) (ps : List Str) (sp : Sp) : Prop where
  ex : ∃ f fd, mg x = some (.ref f) ∧ PySem.W.keepIn K (.ref f) = true ∧ Binds K fd ps [] ∧ FnOk P w K mg base (L2.CX P w) k f fd ps sp
theorem ans_run {t : TS} {σ : L2.St} {G H : Hp} {ρ : DEnv} {d : D} {E : Ends} (k : Same G H) (m : Em K G σ ρ) (q : ∀ z G' H', Gr G H G' H' → Den K G' z d → E.rt z H') (h : XS K t ρ (.rt d)) : t E σ H := h σ G H E k m q
theorem ans_runZ {t : TS} {σ : L2.St} {G H : Hp} {ρ : DEnv} {F : Hp → Hp → Prop} {E : Ends} (k : Same G H) (m : Em K G σ ρ) (q : F G H) (h : XZ K t ρ F) : t E σ H := h σ G H E k m q
abbrev s_answer : Stmt := top 55
theorem sc_answer : FnScope ["sealer", "root", "tree", "question"] ["sealer", "root", "tree", "question"] (defScope s_answer) := ⟨rfl, rfl, rfl, by decide +kernel, rfl, by decide +kernel, by decide +kernel⟩
theorem prx_answer (F : DefAt K mg "answer" s_answer) (T : Txt K mg C eRow) (W : WrAt P w K mg base WR) (h_is_well_formed : Pr P w K mg base 25 "is_well_formed" ["sealer", "tree"] (spD K (Rwf C 20))) (h_root_of : Pr P w K mg base 26 "root_of" ["sealer", "tree"] (spD K (Rroot C 20)))
    (h_ask : Pr P w K mg base 68 "ask" ["sealer", "tree", "question"] (spD K (Rask C 20))) : PrX P w K mg base 70 "answer" ["sealer", "root", "tree", "question"] (spAns K C WR) := by
  obtain ⟨f, fd, hm, F⟩ := F.ex
  refine ⟨f, fd, hm, F.kp, F.binds (fun _ _ _ _ _ _ us hl => match us, hl with | [_, _, _, _], _ => rfl), F.okX sc_answer (fun vs H Q E h => ?_) fun cdv A outer s H vs Q E hr h => ⟨_, (pss_cons (ps_if (pt_not (pt_val (pe_callD h_is_well_formed (hr.mono (by omega)) rfl (pa_cons (pv 0) (pa_cons (pv 2) pa_nil))))) pss_never pss_nil)
    (pss_cons (ps_if (pt_cmpR op_ne (pe_callD h_root_of (hr.mono (by omega)) rfl (pa_cons (pv 0) (pa_cons (pv 2) pa_nil))) (pv 1) (nomark _)) (pss_one (ps_raise rfl (takes_of rfl rfl rfl rfl) (pmk_wr W (hr.mono (by omega)) rfl (pa_cons (pe_callD h_root_of (hr.mono (by omega)) rfl (pa_cons (pv 0) (pa_cons (pv 2) pa_nil))) pa_nil)))) pss_nil)
    (pss_one (ps_ret (pe_callD h_ask (hr.mono (by omega)) rfl (pa_cons (pv 0) (pa_cons (pv 2) (pa_cons (pv 3) pa_nil)))))))), ?_⟩⟩
  · obtain ⟨G, ds, p, r, k, o, q, _, l, _, _, _, _, e, _⟩ := h
    rw [l.length, e]
    rfl
  · obtain ⟨G, ds, p, r, k, o, q, kk, l, hp, ho, hw, hq, rfl, q1, q2⟩ := h
    by_cases c : r = rootOf p o
    · refine ans_run (kk) (em_start (N := ["sealer", "root", "tree", "question"]) l) (q1 c) ?_
      · skip
        refine xs_ifs (b := false) (XT.to (xt_not (xt_B (xe_call (by walk_at "x") (⟨p, k, o, ho, rfl, rfl⟩ : Rwf C 20 _ _)))) (by rw [hw]; rfl)) (fun h => by cases h) fun _ => xs_nseq ?_
        refine xs_ifs (b := false) (XT.to (xt_test (xe_op (xe_call (by walk_at "x") (⟨p, k, o, hp, ho, rfl, rfl⟩ : Rroot C 20 _ _)) (by walk_at "x") xr_neI)) (by simp [c])) (fun h => by cases h) fun _ => xs_nseq ?_
        exact xs_ret (xe_call (by walk_at "x") ⟨p, k, o, q, hp, ho, hq, rfl, rfl⟩)
    · refine ans_runZ (kk) (em_start (N := ["sealer", "root", "tree", "question"]) l) (q2 c) ?_
      · skip
        refine xz_ifs (b := false) (XT.to (xt_not (xt_B (xe_call (by walk_at "x") (⟨p, k, o, ho, rfl, rfl⟩ : Rwf C 20 _ _)))) (by rw [hw]; rfl)) (fun h => by cases h) fun _ => xz_nseq ?_
        refine xz_ifs (b := true) (XT.to (xt_test (xe_op (xe_call (by walk_at "x") (⟨p, k, o, hp, ho, rfl, rfl⟩ : Rroot C 20 _ _)) (by walk_at "x") xr_neI)) (by simpa using fun z => c z.symm)) (fun _ => xz_seqr ?_) (fun h => by cases h)
        exact xz_raise (xa_cons (xe_call (by walk_at "x") (⟨p, k, o, hp, ho, rfl, rfl⟩ : Rroot C 20 _ _)) xa_nil)

def Rchk (C : Addr) (ds : List D) (d : D) : Prop := ∃ (p r : Int) (k : Nat) (o : Option T) (q : Qn), PM p ∧ OTOk k 20 o ∧ wellF o = true ∧ QnOk q ∧ ds = [.obj C p, .int r, encTo o, encQ q] ∧
  d = (if r = rootOf p o then .tup [.str "told", encA (askA p o q)] else .tup [.str "wrong", .int (rootOf p o), .bl true, .bl false])
theorem ret_told {sp : Sp} {E : L2.St → XK} {ta : TA} {D : Ends} {σ : L2.St} {H : Hp} {x : V} (h : ta σ H fun vs H1 => sp vs H1 (fun z H2 => [x, z].length ≤ sizeLine ∧ ∀ p, H2 p = none → D.rt (.ref p) (upd H2 p (.tup [x, z]))) (E σ)) :
    tRet (tTup (tCons (tC x) (tCons (tCallS sp E ta) tNil))) D σ H := h
abbrev s__law_checked : Stmt := top 78
theorem sc__law_checked : FnScope ["_law_sealer", "_law_root_here", "_law_tree", "_law_question_here", "e"] ["_law_sealer", "_law_root_here", "_law_tree", "_law_question_here"] (defScope s__law_checked) := ⟨rfl, rfl, rfl, by decide +kernel, rfl, by decide +kernel, by decide +kernel⟩
theorem pr__law_checked (F : DefAt K mg "_law_checked" s__law_checked) (T : Txt K mg C eRow) (W : WrAt P w K mg base WR) (h_answer : PrX P w K mg base 70 "answer" ["sealer", "root", "tree", "question"] (spAns K C WR)) : Pr P w K mg base 72 "_law_checked" ["_law_sealer", "_law_root_here", "_law_tree", "_law_question_here"] (spD K (Rchk C)) := by
  obtain ⟨f, fd, hm, F⟩ := F.ex
  obtain ⟨fA, fdA, mA, kA, bA, FA⟩ := h_answer.ex
  obtain ⟨aG, mG, iG⟩ := W.gG
  obtain ⟨aI, mI, iI⟩ := W.gI
  refine ⟨f, fd, hm, F.kp, F.binds (fun _ _ _ _ _ _ us hl => match us, hl with | [_, _, _, _], _ => rfl), F.ok sc__law_checked (fun vs H Q E h => ?_) fun cdv A outer s H vs Q E hr h => ⟨_, pss_one (ps_try_as (i := 4)
      (tb := fun W => tRet (tTup (tCons (tC (.str "told")) (tCons (tCallS (spAns K C WR) (WE W) (tCons (tVar 0) (tCons (tVar 1) (tCons (tVar 2) (tCons (tVar 3) tNil))))) tNil))))
      (ts := fun a cls d => tRet (tTup (tCons (tC (.str "wrong")) (tCons (tXf a cls d WR "root" (tVar 4)) (tCons (tCB (rIsX K WR a cls d) (tCons (tVar 4) (tCons (tC (.ref aG)) tNil))) (tCons (tCB (rIsX K WR a cls d) (tCons (tVar 4) (tCons (tC (.ref aI)) tNil))) tNil))))))
      (Wout := fun _ _ _ _ => False) rfl rfl sc__law_checked.nd rfl rfl ⟨rfl, by decide +kernel, Or.inl W.gW⟩ takes0
      (fun W pn xe tk _ => pss_one (ps_ret (pe_tup (pa_cons pe_str (pa_cons (pe_callS FA (hr.mono (by omega)) rfl mA kA bA (fun σ => passAt tk σ) (pa_cons (pv 0) (pa_cons (pv 1) (pa_cons (pv 2) (pa_cons (pv 3) pa_nil))))) pa_nil)))))
      (fun a oe cls d pn hz hf => pss_one (ps_ret (pe_tup (pa_cons pe_str (pa_cons (pe_xf W.xf W.no hz hf (pv 4)) (pa_cons (pe_callB (call_isX W.is hz hf) rfl W.gB (by decide +kernel) (pa_cons (pv 4) (pa_cons (pe_gR mG rfl) pa_nil)))
        (pa_cons (pe_callB (call_isX W.is hz hf) rfl W.gB (by decide +kernel) (pa_cons (pv 4) (pa_cons (pe_gR mI rfl) pa_nil))) pa_nil)))))))), ?_⟩⟩
  · obtain ⟨G, ds, d, _, l, ⟨p, r, k, o, q, _, _, _, _, e, _⟩, _⟩ := h
    rw [l.length, e]
    rfl
  · obtain ⟨G, ds, d, kk, l, ⟨p, r, k, o, q, hp, ho, hw, hq, rfl, rfl⟩, q0⟩ := h
    have m := em_start (N := ["_law_sealer", "_law_root_here", "_law_tree", "_law_question_here", "e"]) l
    obtain ⟨v0, v1, v2, v3, rfl⟩ : ∃ v0 v1 v2 v3, vs = [v0, v1, v2, v3] := by
      have e := l.length
      match vs, e with
      | [v0, v1, v2, v3], _ => exact ⟨_, _, _, _, rfl⟩
    have xa : XA K (tCons (tVar 0) (tCons (tVar 1) (tCons (tVar 2) (tCons (tVar 3) tNil)))) (startD ["_law_sealer", "_law_root_here", "_law_tree", "_law_question_here", "e"] [.obj C p, .int r, encTo o, encQ q]) [.obj C p, .int r, encTo o, encQ q] := by walk_at "x"
    refine ret_told (xa _ G H kk m _ fun xs G1 H1 s1 d1 => ?_)
    refine ⟨G1, _, p, r, k, o, q, s1.ok, d1, hp, ho, hw, hq, rfl, fun c z G' H' s2 d2 => ?_, fun c d G' H' s2 hx => ?_⟩
    · refine ⟨by rw [sizeLine_eq]; simp, fun pp hpp => ?_⟩
      refine q0 _ _ _ ((s1.trans s2).trans (Gr.new s2.ok hpp _)) ?_
      rw [if_pos c]
      exact Den.new_tup (.cons (.str _) (.cons d2 .nil)) (Same.free s2.ok hpp)
    · refine ⟨true, W.exm, fun _ a na => ?_, fun z => by cases z⟩
      refine ⟨_, rfl, rfl, rfl, d, _, _, rfl, hx, rfl, ?_⟩
      refine ⟨_, rfl, rfl, aG, d, _, true, rfl, rfl, hx, iG, ?_⟩
      refine ⟨_, rfl, rfl, aI, d, _, false, rfl, rfl, hx, iI, ?_⟩
      refine ⟨by rw [sizeLine_eq]; simp, fun pp hpp => ?_⟩
      refine q0 _ _ _ ((s1.trans s2).trans (Gr.new s2.ok hpp _)) ?_
      rw [if_neg c]
      exact Den.new_tup (.cons (.str _) (.cons (.int _) (.cons (.bl _) (.cons (.bl _) .nil)))) (Same.free s2.ok hpp)
end
end SG

namespace SG
open PySem L2
local macro_rules | `(tactic| walk_at "xR") => `(tactic| first
  | ((with_reducible show Rnum _ _); exact ⟨_, by assumption, rfl, rfl⟩)
  | ((with_reducible show Rbit _ _); exact ⟨_, _, by assumption, by first | assumption | decide | omega, rfl, rfl⟩)
  | ((with_reducible show Rpart _ _); exact ⟨_, _, by assumption, by assumption, rfl, rfl⟩)
  | ((with_reducible show Risn _ _); exact ⟨_, by assumption, rfl, rfl⟩)
  | ((with_reducible show Rleast _ _); exact ⟨_, _, by assumption, rfl, rfl⟩)
  | ((with_reducible show Rgreat _ _); exact ⟨_, _, by assumption, rfl, rfl⟩)
  | ((with_reducible show RlfRow _ _); exact ⟨_, _, by assumption, rfl, rfl⟩)
  | ((with_reducible show RsmNums _ _); exact ⟨_, _, by assumption, rfl, rfl⟩)
  | ((with_reducible show RbrRow _ _); exact ⟨_, _, _, by assumption, by assumption, rfl, rfl⟩)
  | ((with_reducible show RbrSm _ _ _); exact ⟨_, _, _, _, by assumption, by assumption, by assumption, rfl, rfl⟩)
  | ((with_reducible show Rworths _ _); exact ⟨_, by assumption, by assumption, rfl, rfl⟩)
  | ((with_reducible show Rnotes _ _); exact ⟨_, by assumption, by assumption, rfl, rfl⟩)
  | ((with_reducible show RisLeaf _ _); exact ⟨_, _, by assumption, rfl, rfl⟩)
  | ((with_reducible show RareSides _ _); exact ⟨_, _, _, by assumption, by assumption, rfl, rfl⟩)
  | ((with_reducible show RisIn _ _); exact ⟨_, _, _, _, by assumption, by assumption, rfl, rfl⟩)
  | ((with_reducible show Rsl _ _ _); exact ⟨_, _, by assumption, by first | assumption | omega, rfl, rfl⟩)
  | ((with_reducible show Rsumm _ _ _ _); exact ⟨_, _, _, by assumption, by assumption, by first | assumption | omega, rfl, rfl⟩)
  | ((with_reducible show Rtop _ _ _ _); exact ⟨_, _, _, by assumption, by assumption, rfl, rfl⟩)
  | ((with_reducible show Rroot _ _ _ _); exact ⟨_, _, _, by assumption, by assumption, rfl, rfl⟩)
  | ((with_reducible show Rkinds _ _ _); exact ⟨_, _, by assumption, by first | assumption | omega, rfl, rfl⟩)
  | ((with_reducible show Rvalid _ _ _ _); exact ⟨_, _, _, by assumption, by first | assumption | omega, rfl, rfl⟩)
  | ((with_reducible show Rorder _ _ _); exact ⟨_, _, by assumption, by first | assumption | omega, rfl, rfl⟩)
  | ((with_reducible show Rwf _ _ _ _); exact ⟨_, _, _, by assumption, rfl, rfl⟩)
  | ((with_reducible show RleafT _ _); exact ⟨_, _, _, by assumption, by assumption, rfl, rfl⟩)
  | ((with_reducible show RrangeT _ _); exact ⟨_, _, _, _, by assumption, by assumption, by assumption, rfl, rfl⟩)
  | ((with_reducible show RrankT _ _); exact ⟨_, _, _, by assumption, by assumption, rfl, rfl⟩)
  | ((with_reducible show RplaceT _ _); exact ⟨_, _, _, by assumption, rfl, rfl⟩)
  | ((with_reducible show RnextT _ _); exact ⟨_, _, _, by assumption, by assumption, rfl, rfl⟩)
  | ((with_reducible show Rtold _ _); exact ⟨_, _, _, by assumption, by assumption, by assumption, rfl, rfl⟩)
  | ((with_reducible show RsideQ _ _); exact ⟨_, _, _, _, by assumption, by assumption, by assumption, rfl, rfl⟩)
  | ((with_reducible show Rjoin _ _); exact ⟨_, _, _, _, _, by assumption, by assumption, by assumption, rfl, rfl⟩)
  | ((with_reducible show Rempty _ _); exact ⟨_, by assumption, rfl, rfl⟩)
  | ((with_reducible show Rask0 _ _ _ _); exact ⟨_, _, _, _, by assumption, by assumption, by assumption, by assumption, rfl, rfl⟩)
  | ((with_reducible show Rcell _ _); exact ⟨_, _, by assumption, by first | assumption | omega, rfl, rfl⟩)
  | ((with_reducible show Rname _ _); exact ⟨_, rfl, rfl⟩)
  | ((with_reducible show Rmod _ _); exact ⟨_, rfl, rfl⟩)
  | ((with_reducible show Rlsl _ _); exact ⟨_, _, by assumption, by first | assumption | omega, rfl, rfl⟩)
  | ((with_reducible show Rlrow _ _ _); exact ⟨_, _, _, by assumption, by assumption, by first | assumption | omega, rfl, rfl⟩)
  | ((with_reducible show Rlsum _ _ _); exact ⟨_, _, _, by assumption, by assumption, by first | assumption | omega, rfl, rfl⟩)
  | ((with_reducible show Rltop _ _ _); exact ⟨_, _, _, by assumption, by assumption, rfl, rfl⟩)
  | ((with_reducible show Rlroot _ _ _); exact ⟨_, _, _, by assumption, by assumption, rfl, rfl⟩)
  | ((with_reducible show Rbits _ _); exact ⟨_, by assumption, rfl, rfl⟩)
  | ((with_reducible show Rquest _ _); exact ⟨_, rfl, rfl⟩)
  | ((with_reducible show Rsums _ _); exact ⟨_, _, by assumption, by first | assumption | omega, rfl, rfl⟩)
  | skip)
local macro_rules | `(tactic| walk_at "sub") => `(tactic| repeat first | exact sub_nil | refine sub_none ?_ | refine sub_same ?_)
local macro_rules | `(tactic| walk_at "xl") => `(tactic| first | decide | (simp only [List.length_cons, List.length_nil, List.length_append, List.length_map]; omega) | skip)
local macro_rules | `(tactic| walk_at "xr") => `(tactic| first
  | with_reducible exact xr_addI | with_reducible exact xr_sub | with_reducible exact xr_eqS | with_reducible exact xr_eqI | with_reducible exact xr_isN | with_reducible exact xr_notN
  | with_reducible exact xr_ltI | with_reducible exact xr_leI | with_reducible exact xr_gtI | with_reducible exact xr_geI | with_reducible exact xr_neS | with_reducible exact xr_neI
  | with_reducible exact xr_ltS | with_reducible exact xr_leS | with_reducible exact xr_gtS | with_reducible exact xr_inC | with_reducible exact xr_xor
  | ((with_reducible apply xr_ixTi); (next => decide); (next => exact rfl))
  | ((with_reducible apply xr_ixLi); (next => decide); (next => exact rfl))
  | ((with_reducible apply xr_addT); walk_at "xl") | ((with_reducible apply xr_addL); walk_at "xl") | ((with_reducible apply xr_addS); walk_at "xl")
  | ((with_reducible apply xr_mulI); first | exact .inl ⟨by decide, by decide⟩ | exact .inr ⟨by decide, by decide⟩ | exact .inl ⟨by omega, by omega⟩ | exact .inr ⟨by omega, by omega⟩ | skip)
  | ((with_reducible apply xr_fdiv); first | exact ⟨by decide, by decide⟩ | exact ⟨by omega, by omega⟩ | skip) | ((with_reducible apply xr_mod); first | assumption | decide | omega | skip) | ((with_reducible apply xr_shr); first | decide | omega | skip)
  | skip)
local macro_rules | `(tactic| walk_at "xc") => `(tactic| first
  | with_reducible exact xc_lenT | with_reducible exact xc_lenL | with_reducible exact xc_lenQ | with_reducible exact xc_int | with_reducible exact xc_abs | with_reducible exact xc_listT | with_reducible exact xc_tupL
  | ((with_reducible apply xc_lenS); first | assumption | omega | skip) | with_reducible exact xc_sum | with_reducible exact xc_all | skip)
local macro_rules | `(tactic| walk_at "xe") => `(tactic| first
  | ((with_reducible apply xe_var); exact rfl) | with_reducible exact xe_int | with_reducible exact xe_str | with_reducible exact xe_non | with_reducible exact xe_bl
  | ((with_reducible apply xe_op) <;> walk_at "x") | ((with_reducible apply xe_tup) <;> walk_at "x") | ((with_reducible apply xe_cb) <;> walk_at "x")
  | ((with_reducible apply xe_call) <;> walk_at "x") | ((with_reducible apply xe_lst) <;> walk_at "x")
  | ((with_reducible apply xe_meth) <;> walk_at "x") | ((with_reducible apply xe_bits) <;> walk_at "x") | ((with_reducible apply xe_not) <;> walk_at "x")
  | ((with_reducible apply xe_and) <;> walk_at "x") | ((with_reducible apply xe_or) <;> walk_at "x") | ((with_reducible apply xe_chain) <;> walk_at "x")
  | ((with_reducible apply xe_slT) <;> walk_at "x") | ((with_reducible apply xe_fld) <;> walk_at "x") | skip)
local macro_rules | `(tactic| walk_at "x") => `(tactic| first
  | ((with_reducible show XE _ _ _ _); walk_at "xe") | ((with_reducible show XR _ _ _ _ _); walk_at "xr") | ((with_reducible show XC _ _ _ _); walk_at "xc")
  | with_reducible exact xa_nil | ((with_reducible apply xa_cons) <;> walk_at "x")
  | ((with_reducible apply xt_test) <;> walk_at "x") | ((with_reducible apply xt_B) <;> walk_at "x") | ((with_reducible apply xt_and) <;> walk_at "x") | ((with_reducible apply xt_or) <;> walk_at "x")
  | ((with_reducible apply xt_not) <;> walk_at "x") | with_reducible exact xt_yes
  | with_reducible exact xo_none | ((with_reducible apply xo_some) <;> walk_at "x")
  | ((with_reducible show List.length _ ≤ 100000); walk_at "xl") | ((with_reducible show (_ == _) = false); decide +kernel) | ((with_reducible show Cls _ _); assumption) | ((with_reducible show NoAttr _ _ _); assumption) | ((with_reducible intro _); walk_at "x") | walk_at "xR")
local macro_rules | `(tactic| walk_at "if0") => `(tactic| (refine xs_ifs (b := false) (XT.to (by walk_at "x") (by decide +kernel)) (fun h => (by cases h)) fun _ => xs_nseq ?_))
local macro_rules | `(tactic| walk_at "if1") => `(tactic| (refine xs_ifs (b := true) (XT.to (by walk_at "x") (by decide +kernel)) (fun _ => xs_seqr ?_) fun h => (by cases h)))
local macro_rules | `(tactic| walk_at "ret") => `(tactic| ((refine xs_ret' (by walk_at "x") ?_); (first | done | rfl | skip)))

/-! ### a sealer is made -/
def spInit (C : Addr) : Sp := fun vs H Q _ => ∃ (a dx : Addr) (p : Int), vs = [.ref a, .int p] ∧ PM p ∧ H a = some (.ins C dx []) ∧ ∀ H', Same H H' → Q .non (upd H' a (.ins C dx [("_modulus", .int p)]))
section
variable {X : Cx} {K : PySem.W.Frag} {o value : Expr} {ta tv : TE} {p' pos : Pos}
theorem ps_fldS (ha : PE X o ta) (hv : PE X value tv) (hs : swapsWith value (some (.Attribute o "_modulus" p')) pos.line X.env = pure false) : PS X (.Assign [.Attribute o "_modulus" p'] value pos) (sFld X.K ta tv "_modulus") := ps_fld ha hv hs
end
structure PrI (P : Program) (w : World) (K : PySem.W.Frag) (mg : Str → Option Value) (base : Heap) (C : Addr) : Prop where
  ex : ∃ f fd, Mk K C f ∧ mg "Sealer" = some (.ref C) ∧ Binds K fd ["self", "modulus"] [] ∧ FnOk P w K mg base CX0 1 f fd ["self", "modulus"] (spInit C)
structure InitAt (K : PySem.W.Frag) (mg : Str → Option Value) (C : Addr) (st : Stmt) : Prop where
  ex : ∃ f fd, Mk K C f ∧ mg "Sealer" = some (.ref C) ∧ Fun K "__init__" "Sealer.__init__" st f fd
section
variable {P : Program} {w : World} {K : PySem.W.Frag} {mg : Str → Option Value} {base : Heap} {C eRow : Addr} {ρ : DEnv} {ta : TA} {p : Int} {E : XK}
theorem if_past {c : TT} {t z : TS} {G H : Hp} {σ : L2.St} {D : Ends} {ρ : DEnv} (k : Same G H) (m : Em K G σ ρ) (h : XT K c ρ false) (q : ∀ H', Same H H' → z D σ H') : tSeq (tIfS c t tNext) z D σ H := h σ G H k m _ fun G1 H1 s1 => q H1 s1.h
abbrev s___init__ : Stmt := inClass (top 59) 0
theorem sc___init__ : FnScope ["self", "modulus"] ["self", "modulus"] (defScope s___init__) := ⟨rfl, rfl, rfl, by decide +kernel, rfl, by decide +kernel, by decide +kernel⟩
theorem pri_Sealer (F : InitAt K mg C s___init__) (T : Txt K mg C eRow) : PrI P w K mg base C := by
  obtain ⟨f, fd, M, hm, F⟩ := F.ex
  refine ⟨f, fd, M, hm, F.binds (fun _ _ _ _ _ _ us hl => match us, hl with | [_, _], _ => rfl), F.ok sc___init__ (fun vs H Q E h => ?_) fun cdv A outer s H vs Q E hr h => ⟨_, (pss_cons (ps_if (pt_not (pt_chain op_leU op_leU (pe_gI T.g_LEAST_MODULUS rfl) (pv 1) (pe_gI T.g_GREATEST_MODULUS rfl))) pss_never pss_nil)
    (pss_one (ps_fldS (pv 0) (pv 1) rfl))), ?_⟩⟩
  · obtain ⟨a, dx, p, rfl, _⟩ := h
    rfl
  · obtain ⟨a, dx, p, rfl, hp, ha, hq⟩ := h
    have h0 := hp.lo
    have h1 := hp.hi
    refine if_past (K := K) (G := H) (ρ := startD ["self", "modulus"] [.raw (.ref a), .int p]) (Same.refl H) (em_start (.cons (.raw _) (.cons (.int _) .nil))) (XT.to (by walk_at "x") ?_) fun H' s => ?_
    · simp [h0, h1]
    · exact ⟨_, rfl, _, rfl, a, C, dx, [], rfl, s _ _ ha, T.cl, T.nM, by decide, hq H' s⟩
/-- Sealer(m) -/
theorem xe_make (h : XA K ta ρ [.int p]) (hp : PM p) : XE K (tMake C (spInit C) [] E ta) ρ (.obj C p) := fun σ G H k m Q q => h σ G H k m _ fun vs G1 H1 s1 d1 => by
  cases d1 with
  | cons h1 h2 =>
    cases h2
    cases h1
    intro x dx nx nd ne
    refine ⟨x, dx, p, rfl, hp, upd_same, fun H' s => ⟨rfl, ?_⟩⟩
    have gx : G1 x = none := Same.free s1.ok nx
    have s2 : Same H1 (upd H' x (.ins C dx [("_modulus", .int p)])) := fun b o e => by
      rw [upd_ne (ne_of_none e nx)]
      exact s b o (by rw [upd_ne (ne_of_none e nx), upd_ne (ne_of_none e nd)]; exact e)
    refine q _ (upd G1 x (.ins C dx [("_modulus", .int p)])) _ (s1.trans ⟨s2, same_new gx _, fun b o e => ?_, fun b o e => upd_ne (ne_of_none e nx)⟩) (.obj upd_same)
    by_cases c : b = x
    · subst c
      rw [upd_same] at e ⊢
      exact e
    · rw [upd_ne c] at e
      exact s2 b o (s1.ok b o e)
end
end SG

namespace SG
open PySem L2
local macro_rules | `(tactic| walk_at "xR") => `(tactic| first
  | ((with_reducible show Rnum _ _); exact ⟨_, by assumption, rfl, rfl⟩)
  | ((with_reducible show Rbit _ _); exact ⟨_, _, by assumption, by first | assumption | decide | omega, rfl, rfl⟩)
  | ((with_reducible show Rpart _ _); exact ⟨_, _, by assumption, by assumption, rfl, rfl⟩)
  | ((with_reducible show Risn _ _); exact ⟨_, by assumption, rfl, rfl⟩)
  | ((with_reducible show Rleast _ _); exact ⟨_, _, by assumption, rfl, rfl⟩)
  | ((with_reducible show Rgreat _ _); exact ⟨_, _, by assumption, rfl, rfl⟩)
  | ((with_reducible show RlfRow _ _); exact ⟨_, _, by assumption, rfl, rfl⟩)
  | ((with_reducible show RsmNums _ _); exact ⟨_, _, by assumption, rfl, rfl⟩)
  | ((with_reducible show RbrRow _ _); exact ⟨_, _, _, by assumption, by assumption, rfl, rfl⟩)
  | ((with_reducible show RbrSm _ _ _); exact ⟨_, _, _, _, by assumption, by assumption, by assumption, rfl, rfl⟩)
  | ((with_reducible show Rworths _ _); exact ⟨_, by assumption, by assumption, rfl, rfl⟩)
  | ((with_reducible show Rnotes _ _); exact ⟨_, by assumption, by assumption, rfl, rfl⟩)
  | ((with_reducible show RisLeaf _ _); exact ⟨_, _, by assumption, rfl, rfl⟩)
  | ((with_reducible show RareSides _ _); exact ⟨_, _, _, by assumption, by assumption, rfl, rfl⟩)
  | ((with_reducible show RisIn _ _); exact ⟨_, _, _, _, by assumption, by assumption, rfl, rfl⟩)
  | ((with_reducible show Rsl _ _ _); exact ⟨_, _, by assumption, by first | assumption | omega, rfl, rfl⟩)
  | ((with_reducible show Rsumm _ _ _ _); exact ⟨_, _, _, by assumption, by assumption, by first | assumption | omega, rfl, rfl⟩)
  | ((with_reducible show Rtop _ _ _ _); exact ⟨_, _, _, by assumption, by assumption, rfl, rfl⟩)
  | ((with_reducible show Rroot _ _ _ _); exact ⟨_, _, _, by assumption, by assumption, rfl, rfl⟩)
  | ((with_reducible show Rkinds _ _ _); exact ⟨_, _, by assumption, by first | assumption | omega, rfl, rfl⟩)
  | ((with_reducible show Rvalid _ _ _ _); exact ⟨_, _, _, by assumption, by first | assumption | omega, rfl, rfl⟩)
  | ((with_reducible show Rorder _ _ _); exact ⟨_, _, by assumption, by first | assumption | omega, rfl, rfl⟩)
  | ((with_reducible show Rwf _ _ _ _); exact ⟨_, _, _, by assumption, rfl, rfl⟩)
  | ((with_reducible show RleafT _ _); exact ⟨_, _, _, by assumption, by assumption, rfl, rfl⟩)
  | ((with_reducible show RrangeT _ _); exact ⟨_, _, _, _, by assumption, by assumption, by assumption, rfl, rfl⟩)
  | ((with_reducible show RrankT _ _); exact ⟨_, _, _, by assumption, by assumption, rfl, rfl⟩)
  | ((with_reducible show RplaceT _ _); exact ⟨_, _, _, by assumption, rfl, rfl⟩)
  | ((with_reducible show RnextT _ _); exact ⟨_, _, _, by assumption, by assumption, rfl, rfl⟩)
  | ((with_reducible show Rtold _ _); exact ⟨_, _, _, by assumption, by assumption, by assumption, rfl, rfl⟩)
  | ((with_reducible show RsideQ _ _); exact ⟨_, _, _, _, by assumption, by assumption, by assumption, rfl, rfl⟩)
  | ((with_reducible show Rjoin _ _); exact ⟨_, _, _, _, _, by assumption, by assumption, by assumption, rfl, rfl⟩)
  | ((with_reducible show Rempty _ _); exact ⟨_, by assumption, rfl, rfl⟩)
  | ((with_reducible show Rask0 _ _ _ _); exact ⟨_, _, _, _, by assumption, by assumption, by assumption, by assumption, rfl, rfl⟩)
  | ((with_reducible show Rcell _ _); exact ⟨_, _, by assumption, by first | assumption | omega, rfl, rfl⟩)
  | ((with_reducible show Rname _ _); exact ⟨_, rfl, rfl⟩)
  | ((with_reducible show Rmod _ _); exact ⟨_, rfl, rfl⟩)
  | ((with_reducible show Rlsl _ _); exact ⟨_, _, by assumption, by first | assumption | omega, rfl, rfl⟩)
  | ((with_reducible show Rlrow _ _ _); exact ⟨_, _, _, by assumption, by assumption, by first | assumption | omega, rfl, rfl⟩)
  | ((with_reducible show Rlsum _ _ _); exact ⟨_, _, _, by assumption, by assumption, by first | assumption | omega, rfl, rfl⟩)
  | ((with_reducible show Rltop _ _ _); exact ⟨_, _, _, by assumption, by assumption, rfl, rfl⟩)
  | ((with_reducible show Rlroot _ _ _); exact ⟨_, _, _, by assumption, by assumption, rfl, rfl⟩)
  | ((with_reducible show Rbits _ _); exact ⟨_, by assumption, rfl, rfl⟩)
  | ((with_reducible show Rquest _ _); exact ⟨_, rfl, rfl⟩)
  | ((with_reducible show Rsums _ _); exact ⟨_, _, by assumption, by first | assumption | omega, rfl, rfl⟩)
  | skip)
local macro_rules | `(tactic| walk_at "sub") => `(tactic| repeat first | exact sub_nil | refine sub_none ?_ | refine sub_same ?_)
local macro_rules | `(tactic| walk_at "xl") => `(tactic| first | decide | (simp only [List.length_cons, List.length_nil, List.length_append, List.length_map]; omega) | skip)
local macro_rules | `(tactic| walk_at "xr") => `(tactic| first
  | with_reducible exact xr_addI | with_reducible exact xr_sub | with_reducible exact xr_eqS | with_reducible exact xr_eqI | with_reducible exact xr_isN | with_reducible exact xr_notN
  | with_reducible exact xr_ltI | with_reducible exact xr_leI | with_reducible exact xr_gtI | with_reducible exact xr_geI | with_reducible exact xr_neS | with_reducible exact xr_neI
  | with_reducible exact xr_ltS | with_reducible exact xr_leS | with_reducible exact xr_gtS | with_reducible exact xr_inC | with_reducible exact xr_xor
  | ((with_reducible apply xr_ixTi); (next => decide); (next => exact rfl))
  | ((with_reducible apply xr_ixLi); (next => decide); (next => exact rfl))
  | ((with_reducible apply xr_addT); walk_at "xl") | ((with_reducible apply xr_addL); walk_at "xl") | ((with_reducible apply xr_addS); walk_at "xl")
  | ((with_reducible apply xr_mulI); first | exact .inl ⟨by decide, by decide⟩ | exact .inr ⟨by decide, by decide⟩ | exact .inl ⟨by omega, by omega⟩ | exact .inr ⟨by omega, by omega⟩ | skip)
  | ((with_reducible apply xr_fdiv); first | exact ⟨by decide, by decide⟩ | exact ⟨by omega, by omega⟩ | skip) | ((with_reducible apply xr_mod); first | assumption | decide | omega | skip) | ((with_reducible apply xr_shr); first | decide | omega | skip)
  | skip)
local macro_rules | `(tactic| walk_at "xc") => `(tactic| first
  | with_reducible exact xc_lenT | with_reducible exact xc_lenL | with_reducible exact xc_lenQ | with_reducible exact xc_int | with_reducible exact xc_abs | with_reducible exact xc_listT | with_reducible exact xc_tupL
  | ((with_reducible apply xc_lenS); first | assumption | omega | skip) | with_reducible exact xc_sum | with_reducible exact xc_all | skip)
local macro_rules | `(tactic| walk_at "xe") => `(tactic| first
  | ((with_reducible apply xe_var); exact rfl) | with_reducible exact xe_int | with_reducible exact xe_str | with_reducible exact xe_non | with_reducible exact xe_bl
  | ((with_reducible apply xe_op) <;> walk_at "x") | ((with_reducible apply xe_tup) <;> walk_at "x") | ((with_reducible apply xe_cb) <;> walk_at "x")
  | ((with_reducible apply xe_call) <;> walk_at "x") | ((with_reducible apply xe_lst) <;> walk_at "x")
  | ((with_reducible apply xe_meth) <;> walk_at "x") | ((with_reducible apply xe_bits) <;> walk_at "x") | ((with_reducible apply xe_not) <;> walk_at "x")
  | ((with_reducible apply xe_and) <;> walk_at "x") | ((with_reducible apply xe_or) <;> walk_at "x") | ((with_reducible apply xe_chain) <;> walk_at "x")
  | ((with_reducible apply xe_slT) <;> walk_at "x") | ((with_reducible apply xe_fld) <;> walk_at "x") | skip)
local macro_rules | `(tactic| walk_at "x") => `(tactic| first
  | ((with_reducible show XE _ _ _ _); walk_at "xe") | ((with_reducible show XR _ _ _ _ _); walk_at "xr") | ((with_reducible show XC _ _ _ _); walk_at "xc")
  | with_reducible exact xa_nil | ((with_reducible apply xa_cons) <;> walk_at "x")
  | ((with_reducible apply xt_test) <;> walk_at "x") | ((with_reducible apply xt_B) <;> walk_at "x") | ((with_reducible apply xt_and) <;> walk_at "x") | ((with_reducible apply xt_or) <;> walk_at "x")
  | ((with_reducible apply xt_not) <;> walk_at "x") | with_reducible exact xt_yes
  | with_reducible exact xo_none | ((with_reducible apply xo_some) <;> walk_at "x")
  | ((with_reducible show List.length _ ≤ 100000); walk_at "xl") | ((with_reducible show (_ == _) = false); decide +kernel) | ((with_reducible show Cls _ _); assumption) | ((with_reducible show NoAttr _ _ _); assumption) | ((with_reducible intro _); walk_at "x") | walk_at "xR")
local macro_rules | `(tactic| walk_at "if0") => `(tactic| (refine xs_ifs (b := false) (XT.to (by walk_at "x") (by decide +kernel)) (fun h => (by cases h)) fun _ => xs_nseq ?_))
local macro_rules | `(tactic| walk_at "if1") => `(tactic| (refine xs_ifs (b := true) (XT.to (by walk_at "x") (by decide +kernel)) (fun _ => xs_seqr ?_) fun h => (by cases h)))
local macro_rules | `(tactic| walk_at "ret") => `(tactic| ((refine xs_ret' (by walk_at "x") ?_); (first | done | rfl | skip)))

/-! ### deep comparisons of data -/
mutual
def pdOf : D → PyData
  | .bl b => .bool b
  | .int i => .int i
  | .str x => .str x
  | .tup ds => .tuple (pdOfs ds)
  | .lst ds => .list (pdOfs ds)
  | _ => .none
def pdOfs : List D → List PyData
  | [] => []
  | d :: r => pdOf d :: pdOfs r
end
mutual
def D.pl : D → Bool
  | .non => true
  | .bl _ => true
  | .int _ => true
  | .str _ => true
  | .tup ds => plAll ds
  | .lst ds => plAll ds
  | _ => false
def plAll : List D → Bool
  | [] => true
  | d :: r => d.pl && plAll r
end
section
variable {K : PySem.W.Frag} {H : Hp}
mutual
theorem den_dp : ∀ (d : D) {v : V}, Den K H v d → d.pl = true → Dp K H v (pdOf d)
  | .non, _, h, _ => by
    cases h
    exact .non
  | .bl b, _, h, _ => by
    cases h
    exact .bl b
  | .int i, _, h, _ => by
    cases h
    exact .int i
  | .str x, _, h, _ => by
    cases h
    exact .str x
  | .tup ds, _, h, p => by
    cases h with
    | tup hs hl => exact .tup hs (den_dps ds hl p)
  | .lst ds, _, h, p => by
    cases h with
    | lst hs hl => exact .lst (SqL.of hs) (den_dps ds hl p)
  | .sq _, _, _, p => Bool.noConfusion p
  | .dct _, _, _, p => Bool.noConfusion p
  | .obj _ _, _, _, p => Bool.noConfusion p
  | .raw _, _, _, p => Bool.noConfusion p
theorem den_dps : ∀ (ds : List D) {vs : List V}, DenL K H vs ds → plAll ds = true → DpAll K H vs (pdOfs ds)
  | [], _, h, _ => by
    cases h
    exact .nil
  | d :: ds, _, h, p => by
    cases h with
    | cons h l => exact .cons (den_dp d h (Bool.and_eq_true_iff.mp p).1) (den_dps ds l (Bool.and_eq_true_iff.mp p).2)
end
theorem op_neDK {X : Cx} (h : X.K = K) (hu : X.A.units + 64 < cLine) : OpR X (compareOp .NotEq) (rNeD K) := by
  subst h
  exact op_neD hu
structure Shp (d : D) : Prop where
  pl : d.pl = true
  sh : SeqAt.shaped (pdOf d) = true
theorem xr_neSame {d : D} (h : Shp d) : XR K (rNeD K) d d (.bl false) := fun x y G H k hx hy Q q => by
  refine ⟨_, _, den_dp d (hx.mono k) h.pl, den_dp d (hy.mono k) h.pl, h.sh, h.sh, ?_⟩
  rw [PySem.SeqAt.eqv_refl _ (PySem.SeqAt.canLay_of_shaped h.sh)]
  exact q _ G H (.refl k) (.bl _)
end
/-! ### the answers are shaped -/
theorem pl_ints : ∀ l : List Int, plAll (l.map .int) = true
  | [] => rfl
  | _ :: r => pl_ints r
theorem can_ints : ∀ l : List Int, PyData.canLayAll0 (pdOfs (l.map .int)) = true
  | [] => rfl
  | _ :: r => by
    show (true && PyData.canLayAll0 (pdOfs (r.map .int))) = true
    rw [can_ints r]
    rfl
theorem dep_ints : ∀ l : List Int, PyData.depthAll (pdOfs (l.map .int)) ≤ 1
  | [] => by simp [pdOfs, PyData.depthAll]
  | i :: r => by
    have := dep_ints r
    simp only [List.map_cons, pdOfs, pdOf, PyData.depthAll, PyData.depth]
    omega
theorem nm_strOk {s : Str} (h : Nm s) : PyData.strOk s = true := by
  unfold PyData.strOk
  rw [← Array.all_toList, List.all_eq_true]
  intro c hc
  have : ∀ c ∈ alph, c < 0x110000 := by decide
  exact decide_eq_true (this c (h.mem c hc))
structure ShN (n : Nat) (d : D) : Prop where
  pl : d.pl = true
  can : (pdOf d).canLay0 = true
  dep : (pdOf d).depth ≤ n
structure ShNs (n : Nat) (ds : List D) : Prop where
  pl : plAll ds = true
  can : PyData.canLayAll0 (pdOfs ds) = true
  dep : PyData.depthAll (pdOfs ds) ≤ n
theorem ShN.sh {n : Nat} {d : D} (h : ShN n d) (hn : n ≤ 64) : Shp d := ⟨h.pl, by unfold SeqAt.shaped; rw [h.can, Bool.true_and]; exact decide_eq_true (Nat.le_trans h.dep hn)⟩
theorem ShN.mono {n m : Nat} {d : D} (h : ShN n d) (l : n ≤ m) : ShN m d := ⟨h.pl, h.can, Nat.le_trans h.dep l⟩
theorem shs_nil {n : Nat} : ShNs n [] := ⟨rfl, rfl, by simp [pdOfs, PyData.depthAll]⟩
theorem shs_cons {n : Nat} {d : D} {ds : List D} (h : ShN n d) (hs : ShNs n ds) : ShNs n (d :: ds) := by
  refine ⟨?_, ?_, ?_⟩
  · show (d.pl && plAll ds) = true
    rw [h.pl, hs.pl]
    rfl
  · show ((pdOf d).canLay0 && PyData.canLayAll0 (pdOfs ds)) = true
    rw [h.can, hs.can]
    rfl
  · have h1 := h.dep
    have h2 := hs.dep
    simp only [pdOfs, PyData.depthAll]
    omega
theorem sh_tup {n : Nat} {ds : List D} (h : ShNs n ds) : ShN (n + 1) (.tup ds) := ⟨h.pl, h.can, by
  have := h.dep
  simp only [pdOf, PyData.depth]
  omega⟩
theorem sh_int {n : Nat} {i : Int} : ShN (n + 1) (.int i) := ⟨rfl, rfl, by simp [pdOf, PyData.depth]⟩
theorem sh_bl {n : Nat} {i : Bool} : ShN (n + 1) (.bl i) := ⟨rfl, rfl, by simp [pdOf, PyData.depth]⟩
theorem sh_non {n : Nat} : ShN (n + 1) .non := ⟨rfl, rfl, by simp [pdOf, PyData.depth]⟩
theorem sh_str {n : Nat} {s : Str} (h : PyData.strOk s = true) : ShN (n + 1) (.str s) := ⟨rfl, h, by simp [pdOf, PyData.depth]⟩
theorem sh_ints (l : List Int) : ShN 2 (encI l) := sh_tup (n := 1) ⟨pl_ints l, can_ints l, dep_ints l⟩
/-- an answer that is no answer to several names -/
def Flat : An → Prop
  | .sev _ => False
  | .nm s => Nm s
  | _ => True
def AnOk : An → Prop
  | .sev l => ∀ a ∈ l, Flat a
  | a => Flat a
theorem sh_flat {a : An} (h : Flat a) : ShN 4 (encA a) := by
  cases a with
  | non => exact sh_non
  | lf ws ns =>
    unfold encA
    exact (sh_tup (shs_cons (sh_ints ws) (shs_cons (sh_ints ns) shs_nil))).mono (by decide)
  | int i => exact sh_int
  | sums l => exact (sh_ints l).mono (by decide)
  | rng c o =>
    unfold encA
    refine (sh_tup (n := 2) (shs_cons sh_int (shs_cons ?_ shs_nil))).mono (by decide)
    cases o with
    | none => exact sh_non
    | some l => exact sh_ints l
  | nm s => exact sh_str (nm_strOk h)
  | sev l => exact h.elim
theorem shs_flat : ∀ {l : List An}, (∀ a ∈ l, Flat a) → ShNs 4 (encAs l)
  | [], _ => shs_nil
  | a :: r, h => shs_cons (sh_flat (h a (List.mem_cons_self ..))) (shs_flat fun b m => h b (List.mem_cons_of_mem _ m))
theorem sh_an {a : An} (h : AnOk a) : ShN 5 (encA a) := by
  cases a with
  | sev l =>
    unfold encA
    exact sh_tup (shs_flat h)
  | non => exact (sh_flat (a := .non) h).mono (by decide)
  | lf ws ns => exact (sh_flat (a := .lf ws ns) h).mono (by decide)
  | int i => exact (sh_flat (a := .int i) h).mono (by decide)
  | sums l => exact (sh_flat (a := .sums l) h).mono (by decide)
  | rng c o => exact (sh_flat (a := .rng c o) h).mono (by decide)
  | nm s => exact (sh_flat (a := .nm s) h).mono (by decide)
theorem lawA_ok {k : Nat} {ls ss : List Lf} (h : ∀ l ∈ ss, Nm l.nm) (q : Qn) : AnOk (lawA k ls ss q) := by
  have ho : ∀ o : Option Lf, Flat (optA o) := fun o => by cases o <;> trivial
  cases q with
  | leaf x => cases e : getL ls x <;> simp only [lawA, e] <;> trivial
  | several l =>
    intro a ha
    obtain ⟨x, _, rfl⟩ := List.mem_map.mp ha
    exact ho _
  | count => trivial
  | total => cases e : sumsL k ss <;> simp only [lawA, e] <;> trivial
  | range x y => trivial
  | rank x => trivial
  | place n =>
    cases e : ss[n.toNat]? with
    | none => simp only [lawA, e]; trivial
    | some l =>
      simp only [lawA, e]
      exact h l (List.mem_of_getElem? e)
  | next x =>
    cases e : (ss.filter (gtN x)).head? with
    | none => simp only [lawA, e]; trivial
    | some l =>
      simp only [lawA, e]
      exact h l (List.mem_filter.mp (List.mem_of_head? e)).1
end SG

namespace SG
open PySem L2
local macro_rules | `(tactic| walk_at "xR") => `(tactic| first
  | ((with_reducible show Rnum _ _); exact ⟨_, by assumption, rfl, rfl⟩)
  | ((with_reducible show Rbit _ _); exact ⟨_, _, by assumption, by first | assumption | decide | omega, rfl, rfl⟩)
  | ((with_reducible show Rpart _ _); exact ⟨_, _, by assumption, by assumption, rfl, rfl⟩)
  | ((with_reducible show Risn _ _); exact ⟨_, by assumption, rfl, rfl⟩)
  | ((with_reducible show Rleast _ _); exact ⟨_, _, by assumption, rfl, rfl⟩)
  | ((with_reducible show Rgreat _ _); exact ⟨_, _, by assumption, rfl, rfl⟩)
  | ((with_reducible show RlfRow _ _); exact ⟨_, _, by assumption, rfl, rfl⟩)
  | ((with_reducible show RsmNums _ _); exact ⟨_, _, by assumption, rfl, rfl⟩)
  | ((with_reducible show RbrRow _ _); exact ⟨_, _, _, by assumption, by assumption, rfl, rfl⟩)
  | ((with_reducible show RbrSm _ _ _); exact ⟨_, _, _, _, by assumption, by assumption, by assumption, rfl, rfl⟩)
  | ((with_reducible show Rworths _ _); exact ⟨_, by assumption, by assumption, rfl, rfl⟩)
  | ((with_reducible show Rnotes _ _); exact ⟨_, by assumption, by assumption, rfl, rfl⟩)
  | ((with_reducible show RisLeaf _ _); exact ⟨_, _, by assumption, rfl, rfl⟩)
  | ((with_reducible show RareSides _ _); exact ⟨_, _, _, by assumption, by assumption, rfl, rfl⟩)
  | ((with_reducible show RisIn _ _); exact ⟨_, _, _, _, by assumption, by assumption, rfl, rfl⟩)
  | ((with_reducible show Rsl _ _ _); exact ⟨_, _, by assumption, by first | assumption | omega, rfl, rfl⟩)
  | ((with_reducible show Rsumm _ _ _ _); exact ⟨_, _, _, by assumption, by assumption, by first | assumption | omega, rfl, rfl⟩)
  | ((with_reducible show Rtop _ _ _ _); exact ⟨_, _, _, by assumption, by assumption, rfl, rfl⟩)
  | ((with_reducible show Rroot _ _ _ _); exact ⟨_, _, _, by assumption, by assumption, rfl, rfl⟩)
  | ((with_reducible show Rkinds _ _ _); exact ⟨_, _, by assumption, by first | assumption | omega, rfl, rfl⟩)
  | ((with_reducible show Rvalid _ _ _ _); exact ⟨_, _, _, by assumption, by first | assumption | omega, rfl, rfl⟩)
  | ((with_reducible show Rorder _ _ _); exact ⟨_, _, by assumption, by first | assumption | omega, rfl, rfl⟩)
  | ((with_reducible show Rwf _ _ _ _); exact ⟨_, _, _, by assumption, rfl, rfl⟩)
  | ((with_reducible show RleafT _ _); exact ⟨_, _, _, by assumption, by assumption, rfl, rfl⟩)
  | ((with_reducible show RrangeT _ _); exact ⟨_, _, _, _, by assumption, by assumption, by assumption, rfl, rfl⟩)
  | ((with_reducible show RrankT _ _); exact ⟨_, _, _, by assumption, by assumption, rfl, rfl⟩)
  | ((with_reducible show RplaceT _ _); exact ⟨_, _, _, by assumption, rfl, rfl⟩)
  | ((with_reducible show RnextT _ _); exact ⟨_, _, _, by assumption, by assumption, rfl, rfl⟩)
  | ((with_reducible show Rtold _ _); exact ⟨_, _, _, by assumption, by assumption, by assumption, rfl, rfl⟩)
  | ((with_reducible show RsideQ _ _); exact ⟨_, _, _, _, by assumption, by assumption, by assumption, rfl, rfl⟩)
  | ((with_reducible show Rjoin _ _); exact ⟨_, _, _, _, _, by assumption, by assumption, by assumption, rfl, rfl⟩)
  | ((with_reducible show Rempty _ _); exact ⟨_, by assumption, rfl, rfl⟩)
  | ((with_reducible show Rask0 _ _ _ _); exact ⟨_, _, _, _, by assumption, by assumption, by assumption, by assumption, rfl, rfl⟩)
  | ((with_reducible show Rcell _ _); exact ⟨_, _, by assumption, by first | assumption | omega, rfl, rfl⟩)
  | ((with_reducible show Rname _ _); exact ⟨_, rfl, rfl⟩)
  | ((with_reducible show Rmod _ _); exact ⟨_, rfl, rfl⟩)
  | ((with_reducible show Rlsl _ _); exact ⟨_, _, by assumption, by first | assumption | omega, rfl, rfl⟩)
  | ((with_reducible show Rlrow _ _ _); exact ⟨_, _, _, by assumption, by assumption, by first | assumption | omega, rfl, rfl⟩)
  | ((with_reducible show Rlsum _ _ _); exact ⟨_, _, _, by assumption, by assumption, by first | assumption | omega, rfl, rfl⟩)
  | ((with_reducible show Rltop _ _ _); exact ⟨_, _, _, by assumption, by assumption, rfl, rfl⟩)
  | ((with_reducible show Rlroot _ _ _); exact ⟨_, _, _, by assumption, by assumption, rfl, rfl⟩)
  | ((with_reducible show Rbits _ _); exact ⟨_, by assumption, rfl, rfl⟩)
  | ((with_reducible show Rquest _ _); exact ⟨_, rfl, rfl⟩)
  | ((with_reducible show Rsums _ _); exact ⟨_, _, by assumption, by first | assumption | omega, rfl, rfl⟩)
  | skip)
local macro_rules | `(tactic| walk_at "sub") => `(tactic| repeat first | exact sub_nil | refine sub_none ?_ | refine sub_same ?_)
local macro_rules | `(tactic| walk_at "xl") => `(tactic| first | decide | (simp only [List.length_cons, List.length_nil, List.length_append, List.length_map]; omega) | skip)
local macro_rules | `(tactic| walk_at "xr") => `(tactic| first
  | with_reducible exact xr_addI | with_reducible exact xr_sub | with_reducible exact xr_eqS | with_reducible exact xr_eqI | with_reducible exact xr_isN | with_reducible exact xr_notN
  | with_reducible exact xr_ltI | with_reducible exact xr_leI | with_reducible exact xr_gtI | with_reducible exact xr_geI | with_reducible exact xr_neS | with_reducible exact xr_neI
  | with_reducible exact xr_ltS | with_reducible exact xr_leS | with_reducible exact xr_gtS | with_reducible exact xr_inC | with_reducible exact xr_xor
  | ((with_reducible apply xr_ixTi); (next => decide); (next => exact rfl))
  | ((with_reducible apply xr_ixLi); (next => decide); (next => exact rfl))
  | ((with_reducible apply xr_addT); walk_at "xl") | ((with_reducible apply xr_addL); walk_at "xl") | ((with_reducible apply xr_addS); walk_at "xl")
  | ((with_reducible apply xr_mulI); first | exact .inl ⟨by decide, by decide⟩ | exact .inr ⟨by decide, by decide⟩ | exact .inl ⟨by omega, by omega⟩ | exact .inr ⟨by omega, by omega⟩ | skip)
  | ((with_reducible apply xr_fdiv); first | exact ⟨by decide, by decide⟩ | exact ⟨by omega, by omega⟩ | skip) | ((with_reducible apply xr_mod); first | assumption | decide | omega | skip) | ((with_reducible apply xr_shr); first | decide | omega | skip)
  | skip)
local macro_rules | `(tactic| walk_at "xc") => `(tactic| first
  | with_reducible exact xc_lenT | with_reducible exact xc_lenL | with_reducible exact xc_lenQ | with_reducible exact xc_int | with_reducible exact xc_abs | with_reducible exact xc_listT | with_reducible exact xc_tupL
  | ((with_reducible apply xc_lenS); first | assumption | omega | skip) | with_reducible exact xc_sum | with_reducible exact xc_all | skip)
local macro_rules | `(tactic| walk_at "xe") => `(tactic| first
  | ((with_reducible apply xe_var); exact rfl) | with_reducible exact xe_int | with_reducible exact xe_str | with_reducible exact xe_non | with_reducible exact xe_bl
  | ((with_reducible apply xe_op) <;> walk_at "x") | ((with_reducible apply xe_tup) <;> walk_at "x") | ((with_reducible apply xe_cb) <;> walk_at "x")
  | ((with_reducible apply xe_call) <;> walk_at "x") | ((with_reducible apply xe_lst) <;> walk_at "x")
  | ((with_reducible apply xe_meth) <;> walk_at "x") | ((with_reducible apply xe_bits) <;> walk_at "x") | ((with_reducible apply xe_not) <;> walk_at "x")
  | ((with_reducible apply xe_and) <;> walk_at "x") | ((with_reducible apply xe_or) <;> walk_at "x") | ((with_reducible apply xe_chain) <;> walk_at "x")
  | ((with_reducible apply xe_slT) <;> walk_at "x") | ((with_reducible apply xe_fld) <;> walk_at "x") | skip)
local macro_rules | `(tactic| walk_at "x") => `(tactic| first
  | ((with_reducible show XE _ _ _ _); walk_at "xe") | ((with_reducible show XR _ _ _ _ _); walk_at "xr") | ((with_reducible show XC _ _ _ _); walk_at "xc")
  | with_reducible exact xa_nil | ((with_reducible apply xa_cons) <;> walk_at "x")
  | ((with_reducible apply xt_test) <;> walk_at "x") | ((with_reducible apply xt_B) <;> walk_at "x") | ((with_reducible apply xt_and) <;> walk_at "x") | ((with_reducible apply xt_or) <;> walk_at "x")
  | ((with_reducible apply xt_not) <;> walk_at "x") | with_reducible exact xt_yes
  | with_reducible exact xo_none | ((with_reducible apply xo_some) <;> walk_at "x")
  | ((with_reducible show List.length _ ≤ 100000); walk_at "xl") | ((with_reducible show (_ == _) = false); decide +kernel) | ((with_reducible show Cls _ _); assumption) | ((with_reducible show NoAttr _ _ _); assumption) | ((with_reducible intro _); walk_at "x") | walk_at "xR")
local macro_rules | `(tactic| walk_at "if0") => `(tactic| (refine xs_ifs (b := false) (XT.to (by walk_at "x") (by decide +kernel)) (fun h => (by cases h)) fun _ => xs_nseq ?_))
local macro_rules | `(tactic| walk_at "if1") => `(tactic| (refine xs_ifs (b := true) (XT.to (by walk_at "x") (by decide +kernel)) (fun _ => xs_seqr ?_) fun h => (by cases h)))
local macro_rules | `(tactic| walk_at "ret") => `(tactic| ((refine xs_ret' (by walk_at "x") ?_); (first | done | rfl | skip)))

structure MathAt (k : Nat) (ls : List Lf) (o : Option T) (ss : List Lf) : Prop where
  bt : Built ls o
  ok : OTOk k 20 o
  wf : wellF o = true
  so : Sorted ls ss
  an : ∀ p q, QnOk q → askA p o q = lawA k ls ss q
def MathT : Prop := ∀ (k : Nat) (ls : List Lf), 1 ≤ k → k ≤ 3 → (∀ l ∈ ls, LfOk k l) → (ls.map Lf.nm).Nodup → ls.length ≤ 14 → ∃ o ss, MathAt k ls o ss
theorem pe_mkS {X : Cx} {C : Addr} {p pos : Pos} {e : Expr} {es : List Expr} {ta : TA} (F : PrI X.prog X.w X.K X.mg X.base C) (hr : Room 2 X.A) (hg : Gl X "Sealer") (ha : PA X (e :: es) ta)
    (he : starEach (e :: es) X.env = (false, eval e X.env) :: starEach es X.env := by rfl) (hpl : (backTo pos (starEach es X.env)).any (·.1) = false := by rfl) : PE X (.Call (.Name "Sealer" p) (e :: es) [] pos) (tMake C (spInit C) [] E0 ta) := by
  obtain ⟨f, fd, M, hm, b, F⟩ := F.ex
  exact pe_make M F hr hg hm b .nil pass0 ha (by decide +kernel) he hpl
def Rlaw (ds : List D) (d : D) : Prop := ∃ ns : List Int, ns.length ≤ 63 ∧ ds = [.sq (ns.map .int)] ∧ d = .bl true
section
variable {P : Program} {w : World} {K : PySem.W.Frag} {mg : Str → Option Value} {base : Heap} {C eRow WR : Addr} {k : Nat}
theorem wellF_law {ls : List Lf} : ((kvsOf ls).map (·.2)) = ls.map encL := by
  unfold kvsOf
  rw [List.map_map]
  rfl
theorem lawQ_small (n : Int) : Small (lawQ n) := by
  unfold lawQ
  have h := fmod_rng (n.fdiv 8) (m := 16) (by decide)
  repeat' split
  all_goals first | trivial | (show (n.fdiv 8).fmod 16 ≤ 1000; omega)
theorem fn_mk {x : Str} {st : Stmt} {N ps : List Str} {k : Nat} {R : List D → D → Prop} {f : Addr} {fd : FuncData} (F : Fun K x x st f fd) (S : FnScope N ps (defScope st)) (hl : ∀ ds d, R ds d → ds.length = ps.length)
    (body : ∀ (f : Addr) (cdv : Value) (A : Around) (outer : List PySem.Env) (s : Shared) (H : Hp) (E : XK), Room k (A.deeper (PyProof.Rows.envOfC x (defScope st) s.heap.objs.size f cdv)) →
      ∃ t, PSs (cxOf CX0 P w K mg base N x (defScope st) f cdv A outer s H E).nox (defBody st) t ∧ ∀ ds d, R ds d → XS K t (startD N ds) (.rt d)) : FnOk P w K mg base CX0 (k + 1) f fd ps (spD K R) := by
  refine F.ok S (fun vs H Q E h => ?_) fun cdv A outer s H vs Q E hr h => ?_
  · obtain ⟨G, ds, d, _, l, r, _⟩ := h
    rw [l.length]
    exact hl ds d r
  · obtain ⟨G, ds, d, kk, l, r, q⟩ := h
    obtain ⟨t, ht, hx⟩ := body f cdv A outer s H E hr
    exact ⟨t, ht, hx ds d r _ G H _ kk (em_start l) q⟩
abbrev s_law : Stmt := top 79
theorem sc_law : FnScope ["_law_script", "_law_first", "_law_modulus_here", "_law_sealer", "_law_known", "_law_tree", "_law_name_here", "_law_root_here", "_law_k", "_law_question_here", "_law_due", "_law_other"] ["_law_script"] (defScope s_law) := ⟨rfl, rfl, rfl, by decide +kernel, rfl, by decide +kernel, by decide +kernel⟩
theorem fn_law {fL : Addr} {fdL : FuncData} (MT : MathT) (F : Fun K "law" "law" s_law fL fdL) (T : Txt K mg C eRow) (h_Sealer : PrI P w K mg base C) (h__law_cell : Pr P w K mg base 1 "_law_cell" ["_law_script", "_law_k"] (spD K Rcell)) (h__law_modulus : Pr P w K mg base 1 "_law_modulus" ["_law_number_here"] (spD K Rmod))
    (h__law_leaves : Pr P w K mg base 2 "_law_leaves" ["_law_script", "_law_at", "_law_count", "_law_kinds"] (spD K Rleaves)) (h__law_built : Pr P w K mg base 21 "_law_built" ["_law_leaves_here"] (spD K Rbuilt)) (h__law_root : Pr P w K mg base 45 "_law_root" ["_law_modulus_here", "_law_tree"] (spD K (Rlroot 20)))
    (h__law_question : Pr P w K mg base 2 "_law_question" ["_law_number_here"] (spD K Rquest)) (h__law_answer : Pr P w K mg base 3 "_law_answer" ["_law_known", "_law_question_here"] (spD K Rlans)) (h_ask : Pr P w K mg base 68 "ask" ["sealer", "tree", "question"] (spD K (Rask C 20)))
    (h__law_checked : Pr P w K mg base 72 "_law_checked" ["_law_sealer", "_law_root_here", "_law_tree", "_law_question_here"] (spD K (Rchk C))) : FnOk P w K mg base CX0 74 fL fdL ["_law_script"] (spD K Rlaw) := by
  refine fn_mk F sc_law (fun ds d ⟨ns, _, e, _⟩ => by rw [e]; rfl) fun f cdv A outer s0 H E hr => ⟨_, (pss_cons (ps_set (i := 1) sc_law.nd rfl (by first | exact .inl rfl | exact .inr rfl) (pe_callB call_abs (by rfl) T.abs (by decide +kernel) (pa_cons (pe_callD h__law_cell (hr.mono (by omega)) rfl (pa_cons (pv 0) (pa_cons (pe_int) pa_nil))) pa_nil)))
    (pss_cons (ps_set (i := 2) sc_law.nd rfl (by first | exact .inl rfl | exact .inr rfl) (pe_callD h__law_modulus (hr.mono (by omega)) rfl (pa_cons (pe_op op_fdivN (pv 1) (pe_int)) pa_nil)))
    (pss_cons (ps_set (i := 3) sc_law.nd rfl (by first | exact .inl rfl | exact .inr rfl) (pe_mkS h_Sealer (hr.mono (by omega)) rfl (pa_cons (pv 2) pa_nil)))
    (pss_cons (ps_set (i := 4) sc_law.nd rfl (by first | exact .inl rfl | exact .inr rfl) (pe_callD h__law_leaves (hr.mono (by omega)) rfl (pa_cons (pv 0) (pa_cons (pe_int) (pa_cons (pe_op op_modN (pv 1) (pe_int)) (pa_cons (pe_op (op_addK (K := K) rfl) (pe_int) (pe_op op_modN (pe_op op_fdivN (pv 1) (pe_int)) (pe_int))) pa_nil))))))
    (pss_cons (ps_set (i := 5) sc_law.nd rfl (by first | exact .inl rfl | exact .inr rfl) (pe_callD h__law_built (hr.mono (by omega)) rfl (pa_cons (pe_lock (pe_lc (own := [("_law_name_here", 6)]) rfl sc_law.nd (pi_keys (pv 4)) (blkOk_by (by kernel_rfl)) (fun _ _ _ _ _ => (pg_name (i := 6) sc_law.nd rfl (by first | exact .inl rfl | exact .inr rfl))) (fun _ _ _ _ _ => pts_nil) (fun _ _ _ _ _ => (pe_dget (hu_of hr) (pv 4) (pv 6) (fun _ _ => rfl))))) pa_nil)))
    (pss_cons (ps_set (i := 7) sc_law.nd rfl (by first | exact .inl rfl | exact .inr rfl) (pe_callD h__law_root (hr.mono (by omega)) rfl (pa_cons (pv 2) (pa_cons (pv 5) pa_nil))))
    (pss_cons (ps_for PassesOwn.never rfl (pi_range1 rfl T.range (pa_cons (pe_int) pa_nil)) (pg_name (i := 8) sc_law.nd rfl (by first | exact .inl rfl | exact .inr rfl)) (pss_cons (ps_set (i := 9) sc_law.nd rfl (by first | exact .inl rfl | exact .inr rfl) (pe_callD h__law_question (hr.mono (by omega)) rfl (pa_cons (pe_callB call_abs (by rfl) T.abs (by decide +kernel) (pa_cons (pe_callD h__law_cell (hr.mono (by omega)) rfl (pa_cons (pv 0) (pa_cons (pe_op (op_addK (K := K) rfl) (pe_int) (pv 8)) pa_nil))) pa_nil)) pa_nil)))
    (pss_cons (ps_set (i := 10) sc_law.nd rfl (by first | exact .inl rfl | exact .inr rfl) (pe_callD h__law_answer (hr.mono (by omega)) rfl (pa_cons (pv 4) (pa_cons (pv 9) pa_nil))))
    (pss_cons (ps_if (PW.pt (pw_or (pt_cmpR (op_neDK (K := K) rfl hr.units) (pe_callD h_ask (hr.mono (by omega)) rfl (pa_cons (pv 3) (pa_cons (pv 5) (pa_cons (pv 9) pa_nil)))) (pv 10) (nomark _)) (pw_or1 (pt_cmpR (op_neDK (K := K) rfl hr.units) (pe_callD h__law_checked (hr.mono (by omega)) rfl (pa_cons (pv 3) (pa_cons (pv 7) (pa_cons (pv 5) (pa_cons (pv 9) pa_nil))))) (pe_tup (pa_cons (pe_str) (pa_cons (pv 10) pa_nil))) (nomark _))))) (pss_one (ps_ret (pe_bl))) pss_nil)
    (pss_cons (ps_set (i := 11) sc_law.nd rfl (by first | exact .inl rfl | exact .inr rfl) (pe_op op_modN (pe_op (op_addK (K := K) rfl) (pe_op (op_addK (K := K) rfl) (pv 7) (pe_int)) (pe_op op_modN (pe_op op_fdivN (pv 1) (pe_int)) (pe_int))) (pe_op (op_addK (K := K) rfl) (pv 2) (pe_int))))
    (pss_one (ps_if (PW.pt (pw_and (pt_cmpR op_ne (pv 11) (pv 7) (nomark _)) (pw_and1 (pt_cmpR (op_neDK (K := K) rfl hr.units) (pe_callD h__law_checked (hr.mono (by omega)) rfl (pa_cons (pv 3) (pa_cons (pv 11) (pa_cons (pv 5) (pa_cons (pv 9) pa_nil))))) (pe_tup (pa_cons (pe_str) (pa_cons (pv 7) (pa_cons (pe_bl) (pa_cons (pe_bl) pa_nil))))) (nomark _))))) (pss_one (ps_ret (pe_bl))) pss_nil)))))))
    (pss_one (ps_ret (pe_bl)))))))))), ?_⟩
  rintro ds d ⟨ns, hns, rfl, rfl⟩
  refine xs_seq (xs_set (d := .int (absI (cell ns 0))) (xe_cb (xa_cons (xe_call (by walk_at "x") ⟨ns, 0, hns, by decide, rfl, rfl⟩) xa_nil) xc_abs)) ?_
  generalize absI (cell ns 0) = fst
  refine xs_seq (xs_set (d := .int (lawMod (fst.fdiv 45))) (xe_call (by walk_at "x") ⟨_, rfl, rfl⟩)) ?_
  have hp := lawMod_ok (fst.fdiv 45)
  generalize lawMod (fst.fdiv 45) = p at hp
  refine xs_seq (xs_set (d := .obj C p) (xe_make (by walk_at "x") hp)) ?_
  obtain ⟨n, en, hn⟩ : ∃ n : Nat, fst.fmod 15 = (n : Int) ∧ n ≤ 14 := by
    have h := fmod_rng fst (m := 15) (by decide)
    exact ⟨(fst.fmod 15).toNat, by omega, by omega⟩
  obtain ⟨k, ek, hk1, hk3⟩ : ∃ k : Nat, 1 + (fst.fdiv 15).fmod 3 = (k : Int) ∧ 1 ≤ k ∧ k ≤ 3 := by
    have h := fmod_rng (fst.fdiv 15) (m := 3) (by decide)
    exact ⟨(1 + (fst.fdiv 15).fmod 3).toNat, by omega, by omega, by omega⟩
  refine xs_seq (xs_set (d := .dct (kvsOf (lawLeaves ns 1 k n))) (xe_call (ds := [.sq (ns.map .int), .int 1, .int (fst.fmod 15), .int (1 + (fst.fdiv 15).fmod 3)]) (by walk_at "x") ⟨ns, 1, n, k, hns, by decide, hn, hk1, hk3, by rw [en, ek], rfl⟩)) ?_
  have hok := lawLeaves_ok ns 1 hk1 hk3 n
  have hnd := lawLeaves_nodup ns 1 k n
  have hln := Nat.le_trans (lawLeaves_len ns 1 k n) hn
  generalize lawLeaves ns 1 k n = ls at hok hnd hln
  obtain ⟨o, ss, M⟩ := MT k ls hk1 hk3 hok hnd hln
  refine xs_seq (xs_set (d := encTo o) (xe_call (xa_cons (xe_vals (kvs := kvsOf ls) rfl (by decide) (by rw [kvs_names]; exact hnd) (by rw [kvsOf_len]; omega) (by show 6 < 12; decide)) xa_nil) ⟨k, ls, o, hok, by omega, M.bt, by rw [wellF_law], rfl⟩)) ?_
  refine xs_seq (xs_set (d := .int (rootOf p o)) (xe_call (by walk_at "x") ⟨p, k, o, hp, M.ok, rfl, rfl⟩)) ?_
  refine xs_seq (xs_for (xi_range1 (j := 6) (by walk_at "x") (by decide)) (fun _ => [some (.sq (ns.map .int)), some (.int fst), some (.int p), some (.obj C p), some (.dct (kvsOf ls)), some (encTo o), none, some (.int (rootOf p o)), none, none, none, none]) (by walk_at "sub") fun m d h1 => ?_) ?_
  · obtain ⟨hm, rfl⟩ := rngD_get0 h1
    have h0 := hp.lo
    refine ⟨_, _, xg_name, ?_, Sub.refl _⟩
    refine xs_seq (xs_set (d := encQ (lawQ (absI (cell ns (16 + (m : Int)))))) (xe_call (xa_cons (xe_cb (xa_cons (xe_call (by walk_at "x") ⟨ns, 16 + (m : Int), hns, by omega, rfl, rfl⟩) xa_nil) xc_abs) xa_nil) ⟨_, rfl, rfl⟩)) ?_
    have hq := lawQ_ok (absI (cell ns (16 + (m : Int))))
    have hs := lawQ_small (absI (cell ns (16 + (m : Int))))
    generalize lawQ (absI (cell ns (16 + (m : Int)))) = q at hq hs
    refine xs_seq (xs_set (d := encA (lawA k ls ss q)) (xe_call (by walk_at "x") ⟨k, ls, ss, q, hok, by omega, hnd, M.so, hq, hs, rfl, rfl⟩)) ?_
    have sh := sh_an (lawA_ok (k := k) (ls := ls) (ss := ss) (fun l h => (hok l (M.so.perm.mem_iff.mp h)).nm) q)
    have s1 : Shp (encA (lawA k ls ss q)) := sh.sh (by decide)
    have s2 : Shp (.tup [.str "told", encA (lawA k ls ss q)]) := (sh_tup (n := 5) (shs_cons (sh_str (by decide +kernel)) (shs_cons sh shs_nil))).sh (by decide)
    have s3 : Shp (.tup [.str "wrong", .int (rootOf p o), .bl true, .bl false]) := (sh_tup (n := 5) (shs_cons (sh_str (by decide +kernel)) (shs_cons sh_int (shs_cons sh_bl (shs_cons sh_bl shs_nil))))).sh (by decide)
    have ean := M.an p q hq
    generalize lawA k ls ss q = a at s1 s2 ean
    refine xs_ifs (b := false) (XT.to (xt_or (xt_test (xe_op (xe_call (by walk_at "x") ⟨p, k, o, q, hp, M.ok, hq, rfl, by rw [ean]⟩) (xe_var rfl) (xr_neSame s1)))
      (fun _ => xt_test (xe_op (xe_call (d := .tup [.str "told", encA a]) (by walk_at "x") ⟨p, rootOf p o, k, o, q, hp, M.ok, M.wf, hq, rfl, by rw [if_pos rfl, ean]⟩) (by walk_at "x") (xr_neSame s2)))) rfl) (fun h => (by cases h)) fun _ => xs_nseq ?_
    refine xs_seq (xs_set (d := .int ((rootOf p o + 1 + (fst.fdiv 90).fmod 5).fmod (p + 7))) (by walk_at "x")) ?_
    generalize (rootOf p o + 1 + (fst.fdiv 90).fmod 5).fmod (p + 7) = r
    refine (xs_if (b := false) (XT.to (xt_and (xt_test (xe_op (xe_var rfl) (xe_var rfl) xr_neI)) (fun h => xt_test (xe_op (xe_call (d := .tup [.str "wrong", .int (rootOf p o), .bl true, .bl false]) (by walk_at "x")
      ⟨p, r, k, o, q, hp, M.ok, M.wf, hq, rfl, by rw [if_neg (by simpa using h)]⟩) (by walk_at "x") (xr_neSame s3)))) (Bool.and_false _)) (fun h => (by cases h)) fun _ => xs_next).weak ?_
    walk_at "sub"
  · walk_at "ret"
end
end SG

namespace SG
open PySem L2
/-- every def of the text stands where it should -/
structure Defs (K : PySem.W.Frag) (mg : Str → Option Value) : Prop where
  d_number_of : DefAt K mg "number_of" s_number_of
  d__law_number : DefAt K mg "_law_number" s__law_number
  d_is_name : DefAt K mg "is_name" s_is_name
  d_bit_at : DefAt K mg "bit_at" s_bit_at
  d_parting : DefAt K mg "parting" s_parting
  d_least_of : DefAt K mg "least_of" s_least_of
  d_greatest_of : DefAt K mg "greatest_of" s_greatest_of
  d_leaf_row : DefAt K mg "leaf_row" s_leaf_row
  d_summary_numbers : DefAt K mg "summary_numbers" s_summary_numbers
  d_branch_row : DefAt K mg "branch_row" s_branch_row
  d_branch_summary : DefAt K mg "branch_summary" s_branch_summary
  d_summary_of : DefAt K mg "summary_of" s_summary_of
  d_top_row : DefAt K mg "top_row" s_top_row
  d_root_of : DefAt K mg "root_of" s_root_of
  d_are_worths : DefAt K mg "are_worths" s_are_worths
  d_are_notes : DefAt K mg "are_notes" s_are_notes
  d_is_leaf : DefAt K mg "is_leaf" s_is_leaf
  d_is_inside : DefAt K mg "is_inside" s_is_inside
  d_are_sides : DefAt K mg "are_sides" s_are_sides
  d_kinds_of : DefAt K mg "kinds_of" s_kinds_of
  d_has_valid_parts : DefAt K mg "has_valid_parts" s_has_valid_parts
  d_has_order : DefAt K mg "has_order" s_has_order
  d_is_well_formed : DefAt K mg "is_well_formed" s_is_well_formed
  d_leaf_told : DefAt K mg "leaf_told" s_leaf_told
  d_range_told : DefAt K mg "range_told" s_range_told
  d_rank_told : DefAt K mg "rank_told" s_rank_told
  d_place_told : DefAt K mg "place_told" s_place_told
  d_next_told : DefAt K mg "next_told" s_next_told
  d_told : DefAt K mg "told" s_told
  d_side_questions : DefAt K mg "side_questions" s_side_questions
  d_joined_ranges : DefAt K mg "joined_ranges" s_joined_ranges
  d_branch_answer : DefAt K mg "branch_answer" s_branch_answer
  d_part_answer : DefAt K mg "part_answer" s_part_answer
  d_empty_answer : DefAt K mg "empty_answer" s_empty_answer
  d_ask : DefAt K mg "ask" s_ask
  d__law_cell : DefAt K mg "_law_cell" s__law_cell
  d__law_name : DefAt K mg "_law_name" s__law_name
  d__law_modulus : DefAt K mg "_law_modulus" s__law_modulus
  d__law_seal : DefAt K mg "_law_seal" s__law_seal
  d__law_numbers : DefAt K mg "_law_numbers" s__law_numbers
  d__law_row : DefAt K mg "_law_row" s__law_row
  d__law_summary : DefAt K mg "_law_summary" s__law_summary
  d__law_top : DefAt K mg "_law_top" s__law_top
  d__law_root : DefAt K mg "_law_root" s__law_root
  d__law_bits : DefAt K mg "_law_bits" s__law_bits
  d__law_split : DefAt K mg "_law_split" s__law_split
  d__law_built : DefAt K mg "_law_built" s__law_built
  d__law_question : DefAt K mg "_law_question" s__law_question
  d__law_sums : DefAt K mg "_law_sums" s__law_sums
  d__law_leaves : DefAt K mg "_law_leaves" s__law_leaves
  d__law_answer : DefAt K mg "_law_answer" s__law_answer
  d_answer : DefAt K mg "answer" s_answer
  d__law_checked : DefAt K mg "_law_checked" s__law_checked
section
variable {P : Program} {w : World} {K : PySem.W.Frag} {mg : Str → Option Value} {base : Heap} {C eRow WR : Addr}
theorem whole (MT : MathT) {fL : Addr} {fdL : FuncData} (F : Fun K "law" "law" s_law fL fdL) (S : Defs K mg) (T : Txt K mg C eRow) (SE : MethAt K C "seal" "Sealer.seal" s_seal) (SI : InitAt K mg C s___init__) (W : WrAt P w K mg base WR) :
    FnOk P w K mg base CX0 74 fL fdL ["_law_script"] (spD K Rlaw) := by
  have h_number_of := pr_number_of (P := P) (w := w) (base := base) (k := 0) S.d_number_of T
  have h__law_number := pr__law_number (P := P) (w := w) (base := base) (k := 0) S.d__law_number T
  have h_is_name := pr_is_name (P := P) (w := w) (base := base) (k := 0) S.d_is_name T
  have h_bit_at := pr_bit_at (k := 0) S.d_bit_at T h_number_of
  have h_parting := pr_parting (k := 0) S.d_parting T h_number_of
  have h_least_of := pr_least_of (P := P) (w := w) (base := base) (k := 0) S.d_least_of
  have h_greatest_of := pr_greatest_of (P := P) (w := w) (base := base) (k := 0) S.d_greatest_of
  have h_leaf_row := pr_leaf_row S.d_leaf_row T h_number_of
  have h_summary_numbers := pr_summary_numbers S.d_summary_numbers T h_number_of
  have h_branch_row := pr_branch_row S.d_branch_row T h_summary_numbers
  have h_seal := prM_sl (P := P) (w := w) (mg := mg) (base := base) SE T
  have h_branch_summary := pr_branch_summary S.d_branch_summary T h_branch_row h_seal
  have h_summary_of := pr_summary_of S.d_summary_of T h_leaf_row h_branch_summary h_seal 20
  have h_top_row := pr_top_row S.d_top_row T h_summary_of h_summary_numbers
  have h_root_of := pr_root_of S.d_root_of T h_top_row h_seal
  have h_are_worths := pr_are_worths (P := P) (w := w) (base := base) (k := 0) S.d_are_worths T
  have h_are_notes := pr_are_notes (P := P) (w := w) (base := base) (k := 0) S.d_are_notes T
  have h_is_leaf := pr_is_leaf S.d_is_leaf T h_is_name h_are_worths h_are_notes
  have h_is_inside := pr_is_inside S.d_is_inside T h_least_of h_greatest_of h_parting h_bit_at
  have h_are_sides := pr_are_sides S.d_are_sides T h_least_of h_greatest_of h_parting h_bit_at h_is_inside
  have h_kinds_of := pr_kinds_of (P := P) (w := w) (base := base) S.d_kinds_of T 20
  have h_has_valid_parts := pr_has_valid_parts S.d_has_valid_parts T h_is_leaf 20
  have h_has_order := pr_has_order S.d_has_order T h_are_sides 20
  have h_is_well_formed := pr_is_well_formed S.d_is_well_formed T h_has_valid_parts h_kinds_of h_has_order
  have h_leaf_told := pr_leaf_told S.d_leaf_told T h_number_of
  have h_range_told := pr_range_told S.d_range_told T h_number_of
  have h_rank_told := pr_rank_told S.d_rank_told T h_number_of
  have h_place_told := pr_place_told (P := P) (w := w) (base := base) S.d_place_told T
  have h_next_told := pr_next_told S.d_next_told T h_number_of
  have h_told := pr_told S.d_told T h_leaf_told h_range_told h_rank_told h_place_told h_next_told
  have h_side_questions := pr_side_questions S.d_side_questions T h_number_of
  have h_joined_ranges := pr_joined_ranges (P := P) (w := w) (base := base) S.d_joined_ranges T
  have h_part_answer := pr_part_answer S.d_part_answer S.d_branch_answer T h_summary_of h_told h_side_questions h_joined_ranges 20 (Nat.le_refl _)
  have h_empty_answer := pr_empty_answer (P := P) (w := w) (base := base) S.d_empty_answer T
  have h_ask := pr_ask S.d_ask T h_part_answer h_empty_answer
  have h_answer := prx_answer S.d_answer T W h_is_well_formed h_root_of h_ask
  have h__law_checked := pr__law_checked S.d__law_checked T W h_answer
  have h_Sealer := pri_Sealer (P := P) (w := w) (base := base) SI T
  have h__law_cell := pr__law_cell (P := P) (w := w) (base := base) S.d__law_cell T
  have h__law_name := pr__law_name (P := P) (w := w) (base := base) S.d__law_name T
  have h__law_modulus := pr__law_modulus (P := P) (w := w) (base := base) S.d__law_modulus T
  have h__law_seal := pr__law_sl (P := P) (w := w) (base := base) S.d__law_seal T
  have h__law_numbers := pr__law_numbers S.d__law_numbers T h__law_number
  have h__law_summary := pr__law_summary S.d__law_summary S.d__law_row T h__law_number h__law_numbers h__law_seal 20
  have h__law_top := pr__law_top (m := 40) S.d__law_top T h__law_summary h__law_numbers
  have h__law_root := pr__law_root (m := 40) S.d__law_root T h__law_top h__law_seal
  have h__law_bits := pr__law_bits S.d__law_bits T h__law_number
  have h__law_split := pr__law_split (P := P) (w := w) (base := base) S.d__law_split T 20
  have h__law_built := pr__law_built S.d__law_built T h__law_number h__law_bits h__law_split
  have h__law_question := pr__law_question S.d__law_question T h__law_name
  have h__law_sums := pr__law_sums (P := P) (w := w) (base := base) S.d__law_sums T
  have h__law_leaves := pr__law_leaves S.d__law_leaves T h__law_cell h__law_name
  have h__law_answer := pr__law_answer S.d__law_answer T h__law_sums
  exact fn_law MT F T h_Sealer h__law_cell h__law_modulus h__law_leaves h__law_built h__law_root h__law_question h__law_answer h_ask h__law_checked
end
end SG

namespace SG
open PySem L2 PySem.Spec PyProof.Rows
/-! ### the program's top -/
section
variable {P : Program} {w : World} {K : PySem.W.Frag} {h : Heap} {mg : Str → Option Value}
theorem defAt_mk {x : Str} {st : Stmt} {f : Addr} {oc : Value} {od an : Option Addr} {osl : Array (Option Value)} {kV doc pm cdv ct : Value} (X : K.In h) (G : h.Ns mainGlobals mg) (a : PySem.W.nsIn K mainGlobals x = some (some (.ref f)))
    (l : K.lookup f = some ⟨oc, od, .func (PySem.W.fnOf x x (defArgs st) (defBody st) (defScope st) .none kV doc pm an cdv ct), osl⟩) (c : PySem.W.codeIn K cdv x = true) (k : PySem.W.keepIn K (.ref f) = true) : DefAt K mg x st :=
  ⟨f, _, PySem.W.mg_of X G a, fun_mk l c k⟩
theorem cls_mk {C : Addr} (pg : PySem.W.plainGet K C Str.empty = true) (hd : PySem.W.hasDictIn K C = true) (po : PySem.W.plainOver K C = true) (sa : PySem.W.findIn K (.ref C) "__setattr__" = some (some (.builtin "object.__setattr__"))) : Cls K C := ⟨pg, hd, po, sa⟩
theorem methAt_mk {x q : Str} {C : Addr} {st : Stmt} {f : Addr} {oc : Value} {od an : Option Addr} {osl : Array (Option Value)} {kV doc pm cdv ct : Value} (a : PySem.W.findIn K (.ref C) x = some (some (.ref f))) (i : PySem.W.isFn K (.ref f) = true)
    (l : K.lookup f = some ⟨oc, od, .func (PySem.W.fnOf x q (defArgs st) (defBody st) (defScope st) .none kV doc pm an cdv ct), osl⟩) (c : PySem.W.codeIn K cdv q = true) (k : PySem.W.keepIn K (.ref f) = true) : MethAt K C x q st :=
  ⟨f, _, ⟨a, i, k⟩, fun_mk l c k⟩
theorem initAt_mk {C : Addr} {st : Stmt} {f : Addr} {oc : Value} {od an : Option Addr} {osl : Array (Option Value)} {kV doc pm cdv ct : Value} (gC : mg "Sealer" = some (.ref C)) (mk : PySem.W.makesIn K C = true) (a : PySem.W.findIn K (.ref C) "__init__" = some (some (.ref f))) (i : PySem.W.isFn K (.ref f) = true) (kc : PySem.W.keepIn K (.ref C) = true)
    (l : K.lookup f = some ⟨oc, od, .func (PySem.W.fnOf "__init__" "Sealer.__init__" (defArgs st) (defBody st) (defScope st) .none kV doc pm an cdv ct), osl⟩) (c : PySem.W.codeIn K cdv "Sealer.__init__" = true) (k : PySem.W.keepIn K (.ref f) = true) : InitAt K mg C st :=
  ⟨f, _, ⟨mk, a, i, kc⟩, gC, fun_mk l c k⟩
theorem mgI {x : Str} {i : Int} {u : Tok} (X : K.In h) (G : h.Ns mainGlobals mg) (a : PySem.W.nsIn K mainGlobals x = some (some (.int i u))) : ∃ u, mg x = some (.int i u) := ⟨u, PySem.W.mg_of X G a⟩
theorem mgS {x : Str} {i : Str} {u : Tok} (X : K.In h) (G : h.Ns mainGlobals mg) (a : PySem.W.nsIn K mainGlobals x = some (some (.str i u))) : ∃ u, mg x = some (.str i u) := ⟨u, PySem.W.mg_of X G a⟩
theorem mgL {x : Str} {i : Int} {lv : List (Str × PySem.W.WData)} (V : PySem.W.LooseAre lv mg h) (m : (x, PySem.W.WData.int i) ∈ lv) : ∃ u, mg x = some (.int i u) := by
  obtain ⟨v, e, r⟩ := V.val _ m
  obtain ⟨t, rfl, _⟩ := PySem.W.readsW_int_inv r
  exact ⟨t, e⟩
theorem eRow_mk {eRow : Addr} {o : Obj} {its : Array Value} {n : Nat} {u : Tok} (l : K.lookup eRow = some o) (c : o.cls = .type "tuple") (d : o.data = .seq its n) (e : its = #[.int 2 u]) (H : Hp) : SqT K H eRow [.int 2] :=
  .inr ⟨o, its, n, l, c, d, by rw [e, sizeLine_eq]; simp, by rw [e]; exact .cons ⟨u, rfl⟩ .nil⟩
abbrev s_wr : Stmt := inClass (top 5) 0
structure WrK (P : Program) (K : PySem.W.Frag) (mg : Str → Option Value) (WR : Addr) : Prop where
  ex : ∃ fI fd, PySem.W.findIn K (.ref WR) "__init__" = some (some (.ref fI)) ∧ PySem.W.typeIn K (.ref fI) = some (.type "function") ∧ XiK P K mg WR fI "WrongRoot.__init__" "wrong root" "root" "root" (defArgs s_wr) (defScope s_wr) fd ∧ Binds K fd ["self", "root"] []
  oex : OexC K WR
  gW : mg "WrongRoot" = some (.ref WR)
  xf : XfC K WR
  no : PySem.W.findIn K (.ref WR) "root" = some none
  is : ExcC K WR
  exm : PySem.W.exmOne K (.ref WR) (.ref WR) = some true
  gG : ∃ a, mg "GroveError" = some (.ref a) ∧ PySem.W.kitOne K (.ref WR) (.ref a) = some true
  gI : ∃ a, mg "InvalidTree" = some (.ref a) ∧ PySem.W.kitOne K (.ref WR) (.ref a) = some false
  gB : mg "isinstance" = none
theorem WrK.at {WR : Addr} (W : WrK P K mg WR) (base : Heap) : WrAt P w K mg base WR := by
  obtain ⟨fI, fd, h1, h2, h3, h4⟩ := W.ex
  exact ⟨⟨fI, fd, h1, h2, xi_fn (k := 0) h3, h4⟩, W.oex, W.gW, W.xf, W.no, W.is, W.exm, W.gG, W.gI, W.gB⟩
theorem wr_mk {WR fI cc cda aG aI N : Addr} {nm q : Str} {bs bm : List Value} {sn : List Str} {sub : List Value} {ab : Bool} {col : Option Bool} {dd od cld cdd an : Option Addr} {m0 m1 m2 m3 m5 : Option Value} {oc cl ccl ct kV doc pm : Value} {osl csl ccs : Array (Option Value)} {vs : Array Value} {file : Str} {tf : Tok}
    (X : K.In h) (G : h.Ns mainGlobals mg) (aC : PySem.W.nsIn K mainGlobals "WrongRoot" = some (some (.ref WR)))
    (xL : K.lookup WR = some (excClassObj nm q WR N bs bm true sn sub ab col dd m0 m1 m2 m3 m5 "ValueError.__new__")) (rv : PySem.HandSPX.refsVE bm = true)
    (sa : PySem.W.findIn K (.ref WR) "__setattr__" = some (some (.builtin "object.__setattr__"))) (ga : PySem.W.findIn K (.ref WR) "__getattribute__" = some (some (.builtin "BaseException.__getattribute__"))) (gg : PySem.W.findIn K (.ref WR) "__getattr__" = some none)
    (no : PySem.W.findIn K (.ref WR) "root" = some none) (a1 : PySem.W.findIn K (.ref WR) "__init__" = some (some (.ref fI))) (t1 : PySem.W.typeIn K (.ref fI) = some (.type "function"))
    (l1 : K.lookup fI = some ⟨oc, od, .func (PySem.W.ksFn "__init__" "WrongRoot.__init__" (defArgs s_wr) (defBody s_wr) (defScope s_wr) .none kV doc pm an (.ref cda) ct cc), osl⟩) (c1 : PySem.W.codeIn K (.ref cda) "WrongRoot.__init__" = true)
    (lc : K.lookup cc = some ⟨cl, cld, .cell (some (.ref WR)), csl⟩) (ld : K.lookup cda = some ⟨ccl, cdd, .fields vs, ccs⟩) (lv : vs[2]? = some (.str file tf)) (lf : ((P.main.file : Str) == file) = true)
    (kC : PySem.W.keepIn K (.ref WR) = true) (eC : PySem.W.subIn K (.ref WR) (.type "BaseException") = some true) (tC : PySem.W.typeIn K (.ref WR) = some (.type "type")) (hC : PySem.W.hasDictIn K WR = true) (iC : PySem.W.isClsIn K WR = true) (sC : PySem.W.subIn K (.ref WR) (.ref WR) = some true)
    (iK : PySem.W.excInitIn K WR [.type "ValueError", .type "Exception", .type "BaseException", .type "object"] "ValueError.__new__" = true) (sup : PySem.W.ks_superIn K WR WR "__init__" = some (some (.builtin "ValueError.__init__")))
    (sv : PySem.W.subIn K (.ref WR) (.type "ValueError") = some true) (mC : PySem.W.mroIn K WR (.ref WR) = some true) (stat : PySem.W.nsIn K PySem.cStatics "thirdparty.any" = some none) (sp0 : PySem.W.nsIn K mainGlobals "super" = some none)
    (ha : PySem.W.findIn K (.ref WR) "__class__" = some (some (.builtin "object.__class__"))) (hn : PySem.W.specialIn K (.builtin "object.__class__") "__get__" = some (some (.builtin "getset_descriptor.__get__"))) (ht : PySem.W.takesIn K (.builtin "object.__class__") = some true) (hm : PySem.W.mroIn K WR (.type "object") = some true)
    (gG : PySem.W.nsIn K mainGlobals "GroveError" = some (some (.ref aG))) (kG : PySem.W.kitOne K (.ref WR) (.ref aG) = some true) (gI : PySem.W.nsIn K mainGlobals "InvalidTree" = some (some (.ref aI))) (kI : PySem.W.kitOne K (.ref WR) (.ref aI) = some false)
    (gB : PySem.W.nsIn K mainGlobals "isinstance" = some none) (tp : (P.main.scope.names.lookup ("super" : Str)).isSome = false) : WrK P K mg WR := by
  have oex : OexC K WR := ⟨⟨nm, q, N, bs, bm, sn, sub, ab, col, dd, m0, m1, m2, m3, m5, xL, rv⟩, sa, eC, tC, kC⟩
  refine ⟨⟨fI, _, a1, t1, ⟨⟨oc, cl, ccl, .ref cda, ct, .none, kV, doc, pm, od, cld, cdd, an, osl, csl, ccs, cc, cda, vs, file, tf, ⟨19, 8, 19, 13⟩, ⟨19, 8, 19, 15⟩, ⟨19, 8, 19, 24⟩, ⟨19, 25, 19, 37⟩, ⟨19, 8, 19, 38⟩, ⟨19, 8, 19, 38⟩, ⟨20, 8, 20, 12⟩, ⟨20, 8, 20, 17⟩, ⟨20, 20, 20, 24⟩, ⟨20, 8, 20, 24⟩, 0, _, ?_, l1, c1, lc, ld, lv, lf, fun env => rfl⟩,
      oex, iK, sup, sv, mC, no, stat, PySem.W.mg_none_of X G sp0, ?_, ?_, ?_, ?_, ?_, ?_, ?_, ?_, ?_, ?_, ?_, ?_, tp⟩, ?_⟩,
    oex, PySem.W.mg_of X G aC, ⟨ga, gg, eC, hC⟩, no, ⟨ga, gg, eC, hC, ha, hn, ht, hm⟩, ?_, ⟨aG, PySem.W.mg_of X G gG, kG⟩, ⟨aI, PySem.W.mg_of X G gI, kI⟩, PySem.W.mg_none_of X G gB⟩
  · rfl
  · rfl
  · rfl
  · rfl
  · decide +kernel
  · intro x hx
    have al : ∀ y ∈ (defScope s_wr).names, y.2 ≠ .cell ∧ (y.2 = .free → y.1 = "__class__") := by decide +kernel
    rcases hx with hx | hx
    · exact absurd rfl (al _ (PySem.mem_of_lookup hx)).1
    · exact (al _ (PySem.mem_of_lookup hx)).2 rfl
  · decide +kernel
  · decide +kernel
  · decide +kernel
  · decide +kernel
  · decide +kernel
  · decide +kernel
  · rfl
  · exact .all fun us hl => match us, hl with | [_, _], _ => rfl
  · exact PySem.W.exm_ref eC hC tC sC
end
end SG

namespace SG
open PySem L2
/-! ### the order of texts is the order of numbers -/
theorem alph_idx : ∀ c ∈ alph, ∀ d ∈ alph, (c < d ↔ alph.idxOf c < alph.idxOf d) ∧ (alph.idxOf c = alph.idxOf d → c = d) := by decide +kernel
theorem alph_idx37 : ∀ c ∈ alph, alph.idxOf c < 37 := by decide +kernel
theorem numTo_nil : ∀ k, numTo [] k = 0
  | 0 => rfl
  | k + 1 => by
    show numTo [] k * 64 + dig [] k = 0
    rw [numTo_nil k]
    rfl
theorem numTo_cons (c : Nat) (l : List Nat) : ∀ k, numTo (c :: l) (k + 1) = (alph.idxOf c + 1) * 64 ^ k + numTo l k
  | 0 => by
    show numTo (c :: l) 0 * 64 + dig (c :: l) 0 = _
    show 0 * 64 + (alph.idxOf c + 1) = (alph.idxOf c + 1) * 64 ^ 0 + 0
    omega
  | k + 1 => by
    show numTo (c :: l) (k + 1) * 64 + dig (c :: l) (k + 1) = (alph.idxOf c + 1) * 64 ^ (k + 1) + (numTo l k * 64 + dig l k)
    rw [numTo_cons c l k, Nat.pow_succ]
    have e : dig (c :: l) (k + 1) = dig l k := rfl
    rw [e, Nat.add_mul, Nat.mul_assoc]
    omega
theorem numTo_cmp : ∀ (k : Nat) (a b : List Nat), (∀ c ∈ a, c ∈ alph) → (∀ c ∈ b, c ∈ alph) → a.length ≤ k → b.length ≤ k → (a < b ↔ numTo a k < numTo b k) ∧ (numTo a k = numTo b k → a = b)
  | 0, a, b, _, _, h1, h2 => by
    have e1 : a = [] := List.length_eq_zero_iff.mp (by omega)
    have e2 : b = [] := List.length_eq_zero_iff.mp (by omega)
    subst e1
    subst e2
    exact ⟨⟨fun h => absurd h (List.lt_irrefl _), fun h => absurd h (Nat.lt_irrefl _)⟩, fun _ => rfl⟩
  | k + 1, [], [], _, _, _, _ => ⟨⟨fun h => absurd h (List.lt_irrefl _), fun h => absurd h (Nat.lt_irrefl _)⟩, fun _ => rfl⟩
  | k + 1, [], d :: b, _, _, _, _ => by
    have p : 0 < 64 ^ k := Nat.pow_pos (by decide)
    have q : 1 * 64 ^ k ≤ (alph.idxOf d + 1) * 64 ^ k := Nat.mul_le_mul_right _ (by omega)
    rw [numTo_nil, numTo_cons]
    exact ⟨⟨fun _ => by omega, fun _ => List.nil_lt_cons _ _⟩, fun h => by omega⟩
  | k + 1, c :: a, [], _, _, _, _ => by
    have p : 0 < 64 ^ k := Nat.pow_pos (by decide)
    have q : 1 * 64 ^ k ≤ (alph.idxOf c + 1) * 64 ^ k := Nat.mul_le_mul_right _ (by omega)
    rw [numTo_nil, numTo_cons]
    exact ⟨⟨fun h => absurd h (List.not_lt_nil _), fun h => by omega⟩, fun h => by omega⟩
  | k + 1, c :: a, d :: b, h1, h2, l1, l2 => by
    have ma : ∀ x ∈ a, x ∈ alph := fun x h => h1 x (List.mem_cons_of_mem _ h)
    have mb : ∀ x ∈ b, x ∈ alph := fun x h => h2 x (List.mem_cons_of_mem _ h)
    have ih := numTo_cmp k a b ma mb (by simp only [List.length_cons] at l1; omega) (by simp only [List.length_cons] at l2; omega)
    have hc := h1 c (List.mem_cons_self ..)
    have hd := h2 d (List.mem_cons_self ..)
    have i1 := alph_idx c hc d hd
    have i2 := alph_idx d hd c hc
    have va := numTo_lt a ma k
    have vb := numTo_lt b mb k
    rw [numTo_cons, numTo_cons]
    rcases Nat.lt_trichotomy (alph.idxOf c) (alph.idxOf d) with t | t | t
    · have q : (alph.idxOf c + 2) * 64 ^ k ≤ (alph.idxOf d + 1) * 64 ^ k := Nat.mul_le_mul_right _ (by omega)
      have e : (alph.idxOf c + 2) * 64 ^ k = (alph.idxOf c + 1) * 64 ^ k + 64 ^ k := by rw [Nat.add_mul, Nat.add_mul]; omega
      refine ⟨⟨fun _ => by omega, fun _ => List.cons_lt_cons_iff.mpr (.inl (i1.1.mpr t))⟩, fun h => by omega⟩
    · have ecd := i1.2 t
      subst ecd
      refine ⟨⟨fun h => ?_, fun h => List.cons_lt_cons_iff.mpr (.inr ⟨rfl, ih.1.mpr (by omega)⟩)⟩, fun h => by rw [ih.2 (by omega)]⟩
      rcases List.cons_lt_cons_iff.mp h with h | ⟨_, h⟩
      · exact absurd h (Nat.lt_irrefl _)
      · have := ih.1.mp h
        omega
    · have q : (alph.idxOf d + 2) * 64 ^ k ≤ (alph.idxOf c + 1) * 64 ^ k := Nat.mul_le_mul_right _ (by omega)
      have e : (alph.idxOf d + 2) * 64 ^ k = (alph.idxOf d + 1) * 64 ^ k + 64 ^ k := by rw [Nat.add_mul, Nat.add_mul]; omega
      have hdc := i2.1.mpr t
      refine ⟨⟨fun h => ?_, fun h => by omega⟩, fun h => by omega⟩
      rcases List.cons_lt_cons_iff.mp h with h | ⟨h, _⟩
      · exact absurd h (Nat.lt_asymm hdc)
      · exact absurd h (Nat.ne_of_gt hdc)
theorem nm_lt {a b : Str} (ha : Nm a) (hb : Nm b) : a.cps.toList < b.cps.toList ↔ num a < num b := by
  have h := (numTo_cmp 8 _ _ ha.mem hb.mem ha.len hb.len).1
  rw [h]
  unfold num
  omega
theorem str_ext {a b : Str} (h : a.cps.toList = b.cps.toList) : a = b := by
  obtain ⟨x⟩ := a
  obtain ⟨y⟩ := b
  have : x = y := Array.toList_inj.mp h
  rw [this]
theorem nm_eq {a b : Str} (ha : Nm a) (hb : Nm b) : num a = num b → a = b := fun h => str_ext ((numTo_cmp 8 _ _ ha.mem hb.mem ha.len hb.len).2 (by unfold num at h; omega))
theorem ltCps_iff : ∀ a b : List Nat, PySem.Spec.ltCps a b = true ↔ a < b
  | [], [] => ⟨fun h => (by cases h), fun h => absurd h (List.lt_irrefl _)⟩
  | [], _ :: _ => ⟨fun _ => List.nil_lt_cons _ _, fun _ => rfl⟩
  | _ :: _, [] => ⟨fun h => (by cases h), fun h => absurd h (List.not_lt_nil _)⟩
  | a :: r, b :: t => by
    have ih := ltCps_iff r t
    simp only [PySem.Spec.ltCps, Bool.or_eq_true, decide_eq_true_eq, Bool.and_eq_true, beq_iff_eq, ih, List.cons_lt_cons_iff]
/-! ### a sorted list of names is the only one -/
theorem rising_pw : ∀ (ys : List Str) (p : Str), (∀ y ∈ p :: ys, Nm y) → PyProof.Rows.risingS p ys = true → (p :: ys).Pairwise fun a b => num a ≤ num b
  | [], p, _, _ => List.pairwise_singleton _ _
  | x :: r, p, hn, h => by
    have h' := Bool.and_eq_true_iff.mp h
    have ih := rising_pw r x (fun y hy => hn y (List.mem_cons_of_mem _ hy)) h'.2
    have np := hn p (List.mem_cons_self ..)
    have nx := hn x (List.mem_cons_of_mem _ (List.mem_cons_self ..))
    have le : num p ≤ num x := by
      by_cases c : num x < num p
      · have z := (ltCps_iff _ _).mpr ((nm_lt nx np).mpr c)
        rw [z] at h'
        cases h'.1
      · omega
    refine List.pairwise_cons.mpr ⟨fun y hy => ?_, ih⟩
    rcases List.mem_cons.mp hy with e | hy
    · rw [e]
      exact le
    · have := (List.pairwise_cons.mp ih).1 y hy
      omega
theorem sorted_pw {ys : List Str} (hn : ∀ y ∈ ys, Nm y) (h : PyProof.Rows.sortedS ys = true) : ys.Pairwise fun a b => num a ≤ num b := by
  cases ys with
  | nil => exact List.Pairwise.nil
  | cons x r => exact rising_pw r x hn h
theorem pw_uniq : ∀ {xs ys : List Str}, (∀ y ∈ ys, Nm y) → xs.Perm ys → xs.Pairwise (fun a b => num a < num b) → ys.Pairwise (fun a b => num a ≤ num b) → ys = xs
  | [], ys, _, p, _, _ => List.Perm.eq_nil p.symm
  | x :: r, [], _, p, _, _ => absurd p.length_eq (by simp)
  | x :: r, y :: s, hn, p, h1, h2 => by
    have e : x = y := by
      have mx : x ∈ y :: s := p.mem_iff.mp (List.mem_cons_self ..)
      have my : y ∈ x :: r := p.mem_iff.mpr (List.mem_cons_self ..)
      rcases List.mem_cons.mp my with e | my
      · exact e.symm
      · have l1 := (List.pairwise_cons.mp h1).1 y my
        rcases List.mem_cons.mp mx with e | mx
        · exact e
        · have l2 := (List.pairwise_cons.mp h2).1 x mx
          omega
    subst e
    rw [pw_uniq (fun z hz => hn z (List.mem_cons_of_mem _ hz)) (List.Perm.cons_inv p) (List.pairwise_cons.mp h1).2 (List.pairwise_cons.mp h2).2]
def Up (ls : List Lf) : Prop := ls.Pairwise fun a b => num a.nm < num b.nm
theorem sorted_mk {ls ss : List Lf} (hok : ∀ l ∈ ls, Nm l.nm) (p : ss.Perm ls) (u : Up ss) : Sorted ls ss := by
  refine ⟨p, fun ys py hs => ?_⟩
  have nys : ∀ y ∈ ys, Nm y := fun y hy => by
    obtain ⟨l, hl, rfl⟩ := List.mem_map.mp (py.mem_iff.mp hy)
    exact hok l hl
  exact pw_uniq nys ((p.map Lf.nm).trans py.symm) (List.pairwise_map.mpr u) (sorted_pw nys hs)
end SG

namespace SG
open PySem L2
/-! ### splitting makes a tree in order -/
theorem up_app {a b : List Lf} (ha : Up a) (hb : Up b) (h : ∀ x ∈ a, ∀ y ∈ b, num x.nm < num y.nm) : Up (a ++ b) := List.pairwise_append.mpr ⟨ha, hb, h⟩
theorem least_mem : ∀ t : T, ∃ l ∈ t.lvs, l.nm = least t
  | .lf l => ⟨l, by simp [T.lvs], rfl⟩
  | .br a b => by
    obtain ⟨l, h, e⟩ := least_mem a
    exact ⟨l, by simp [T.lvs, h], e⟩
theorem great_mem : ∀ t : T, ∃ l ∈ t.lvs, l.nm = great t
  | .lf l => ⟨l, by simp [T.lvs], rfl⟩
  | .br a b => by
    obtain ⟨l, h, e⟩ := great_mem b
    exact ⟨l, by simp [T.lvs, h], e⟩
structure Good (ls : List Lf) (t : T) : Prop where
  perm : t.lvs.Perm ls
  up : Up t.lvs
  ord : hasOrder t = true
  dep : t.dep ≤ ls.length
theorem bit01 {s : Str} {k : Nat} (hk : k ≤ 47) : (bitAt s (k : Int) = 0 ↔ bt s k = false) ∧ (bitAt s (k : Int) = 1 ↔ bt s k = true) := by
  rw [bitAt_eq hk]
  cases bt s k <;> simp
theorem filter_perm {α : Type} (p q : α → Bool) : ∀ l : List α, (∀ x ∈ l, q x = !p x) → (l.filter p ++ l.filter q).Perm l
  | [], _ => List.Perm.refl _
  | x :: r, h => by
    have ih := filter_perm p q r fun y hy => h y (List.mem_cons_of_mem _ hy)
    have hx := h x (List.mem_cons_self ..)
    cases hp : p x with
    | true =>
      rw [hp] at hx
      rw [List.filter_cons_of_pos hp, List.filter_cons_of_neg (by rw [hx]; decide)]
      exact ih.cons x
    | false =>
      rw [hp] at hx
      rw [List.filter_cons_of_neg (by rw [hp]; decide), List.filter_cons_of_pos (by rw [hx]; decide)]
      exact List.perm_middle.trans (ih.cons x)
def Agree (k : Nat) (ls : List Lf) : Prop := ∀ a ∈ ls, ∀ b ∈ ls, ∀ j, j < k → bt a.nm j = bt b.nm j
theorem sides_ok {ls : List Lf} {k : Nat} {x y : T} (hk : k ≤ 47) (hok : ∀ l ∈ ls, Nm l.nm) (ag : Agree k ls) (hx : ∀ l ∈ x.lvs, l ∈ ls ∧ bt l.nm k = false) (hy : ∀ l ∈ y.lvs, l ∈ ls ∧ bt l.nm k = true) : areSides x y = true := by
  obtain ⟨lx, mx, ex⟩ := least_mem x
  obtain ⟨gx, nx, fx⟩ := great_mem x
  obtain ⟨ly, my, ey⟩ := least_mem y
  obtain ⟨gy, ny, fy⟩ := great_mem y
  have a1 := hx _ mx
  have a2 := hx _ nx
  have b1 := hy _ my
  have b2 := hy _ ny
  unfold areSides
  rw [← ex, ← fy]
  have e := partg_at (hok _ a1.1) (hok _ b2.1) hk (fun j hj => ag _ a1.1 _ b2.1 j hj) (by rw [a1.2, b2.2]; decide)
  rw [e]
  have ins : ∀ {a b : Lf} {v : Bool} {z : Int}, a ∈ ls → b ∈ ls → bt a.nm k = v → bt b.nm k = v → z = (if v then 1 else 0) → isInside a.nm b.nm (k : Int) z = true := fun {a b v z} ha hb h1 h2 hz => by
    unfold isInside
    have q := partg_after (hok _ ha) (hok _ hb) hk fun j hj => by
      rcases Nat.lt_or_eq_of_le hj with hj | hj
      · exact ag _ ha _ hb j hj
      · rw [hj, h1, h2]
    rw [bitAt_eq hk, bitAt_eq hk, h1, h2, hz]
    simp only [decide_true, Bool.true_and]
    exact q
  show (decide (bitAt lx.nm (k : Int) = 0) && (isInside lx.nm (great x) (k : Int) 0 && isInside (least y) gy.nm (k : Int) 1)) = true
  rw [← fx, ← ey, ins (z := 0) a1.1 a2.1 a1.2 a2.2 rfl, ins (z := 1) b1.1 b2.1 b1.2 b2.2 rfl, decide_eq_true ((bit01 hk).1.mpr a1.2)]
  rfl
theorem split_good : ∀ (n : Nat) (ls : List Lf), n ≤ 48 → ls ≠ [] → (∀ l ∈ ls, Nm l.nm) → (ls.Pairwise fun a b => num a.nm ≠ num b.nm) → Agree (48 - n) ls → ∃ t, split n ls = some t ∧ Good ls t
  | 0, ls, _, hne, hok, hd, ag => by
    match ls, hne with
    | [l], _ => exact ⟨.lf l, rfl, List.Perm.refl _, List.pairwise_singleton _ _, rfl, Nat.le_refl _⟩
    | a :: b :: r, _ =>
      have h := (List.pairwise_cons.mp hd).1 b (List.mem_cons_self ..)
      have e := num_eq_of (hok a (List.mem_cons_self ..)) (hok b (List.mem_cons_of_mem _ (List.mem_cons_self ..))) fun j hj => ag a (List.mem_cons_self ..) b (List.mem_cons_of_mem _ (List.mem_cons_self ..)) j hj
      exact absurd (by rw [num_eq, num_eq, e]) h
  | n + 1, ls, hn, hne, hok, hd, ag => by
    by_cases h1 : ls.length = 1
    · match ls, h1 with
      | [l], _ => exact ⟨.lf l, split_one _ l, List.Perm.refl _, List.pairwise_singleton _ _, rfl, Nat.le_refl _⟩
    have hk : 48 - (n + 1) ≤ 47 := by omega
    have ek : (48 : Int) - ((n + 1 : Nat) : Int) = ((48 - (n + 1) : Nat) : Int) := by omega
    have bb : ∀ l : Lf, p1 ((48 - (n + 1) : Nat) : Int) l = !p0 ((48 - (n + 1) : Nat) : Int) l := fun l => by
      unfold p0 p1
      rw [bitAt_eq hk]
      cases bt l.nm (48 - (n + 1)) <;> rfl
    have p0f : ∀ l : Lf, p0 ((48 - (n + 1) : Nat) : Int) l = true ↔ bt l.nm (48 - (n + 1)) = false := fun l => by
      unfold p0
      rw [decide_eq_true_iff]
      exact (bit01 hk).1
    have p1f : ∀ l : Lf, p1 ((48 - (n + 1) : Nat) : Int) l = true ↔ bt l.nm (48 - (n + 1)) = true := fun l => by
      unfold p1
      rw [decide_eq_true_iff]
      exact (bit01 hk).2
    have pm := filter_perm (p0 ((48 - (n + 1) : Nat) : Int)) (p1 ((48 - (n + 1) : Nat) : Int)) ls fun x _ => bb x
    have pl := pm.length_eq
    rw [List.length_append] at pl
    have sub : ∀ (p : Lf → Bool), (∀ l, l ∈ ls.filter p → l ∈ ls) := fun p l h => (List.mem_filter.mp h).1
    have ag2 : ∀ (p : Lf → Bool) (v : Bool), (∀ l, p l = true → bt l.nm (48 - (n + 1)) = v) → Agree (48 - n) (ls.filter p) := fun p v hp a ha b hb j hj => by
      by_cases c : j < 48 - (n + 1)
      · exact ag a (sub p a ha) b (sub p b hb) j c
      · have : j = 48 - (n + 1) := by omega
        rw [this, hp a (List.mem_filter.mp ha).2, hp b (List.mem_filter.mp hb).2]
    by_cases c : splits (48 - ((n + 1 : Nat) : Int)) ls = true
    · rw [split_yes h1 c]
      unfold splits at c
      rw [ek] at c ⊢
      simp only [Bool.and_eq_true, decide_eq_true_eq] at c
      obtain ⟨x, e1, g1⟩ := split_good n (ls.filter (p0 ((48 - (n + 1) : Nat) : Int))) (by omega) (fun z => by rw [z] at c; exact absurd c.1 (by decide)) (fun l h => hok l (sub _ l h)) (hd.filter _) (ag2 _ false fun l h => (p0f l).mp h)
      obtain ⟨y, e2, g2⟩ := split_good n (ls.filter (p1 ((48 - (n + 1) : Nat) : Int))) (by omega) (fun z => by rw [z] at pl; simp only [List.length_nil] at pl; omega) (fun l h => hok l (sub _ l h)) (hd.filter _) (ag2 _ true fun l h => (p1f l).mp h)
      rw [e1, e2]
      have mx : ∀ l ∈ x.lvs, l ∈ ls ∧ bt l.nm (48 - (n + 1)) = false := fun l h => by
        have := List.mem_filter.mp (g1.perm.mem_iff.mp h)
        exact ⟨this.1, (p0f l).mp this.2⟩
      have my : ∀ l ∈ y.lvs, l ∈ ls ∧ bt l.nm (48 - (n + 1)) = true := fun l h => by
        have := List.mem_filter.mp (g2.perm.mem_iff.mp h)
        exact ⟨this.1, (p1f l).mp this.2⟩
      refine ⟨.br x y, rfl, (g1.perm.append g2.perm).trans pm, up_app g1.up g2.up fun a ha b hb => ?_, ?_, ?_⟩
      · have q := num_lt_of (hok _ (mx a ha).1) (hok _ (my b hb).1) hk (fun j hj => ag _ (mx a ha).1 _ (my b hb).1 j hj) (mx a ha).2 (my b hb).2
        rw [num_eq, num_eq]
        omega
      · show (areSides x y && (hasOrder x && hasOrder y)) = true
        rw [sides_ok hk hok ag mx my, g1.ord, g2.ord]
        rfl
      · have d1 := g1.dep
        have d2 := g2.dep
        have q1 := x.dep_pos
        have q2 := y.dep_pos
        show max x.dep y.dep + 1 ≤ ls.length
        omega
    · rw [split_no h1 c]
      refine split_good n ls (by omega) hne hok hd fun a ha b hb j hj => ?_
      by_cases cj : j < 48 - (n + 1)
      · exact ag a ha b hb j cj
      · have ej : j = 48 - (n + 1) := by omega
        rw [ej]
        unfold splits at c
        rw [ek] at c
        simp only [Bool.and_eq_true, decide_eq_true_eq, not_and, Nat.not_lt] at c
        by_cases z : 0 < (ls.filter (p0 ((48 - (n + 1) : Nat) : Int))).length
        · have w := c z
          have l0 : (ls.filter (p1 ((48 - (n + 1) : Nat) : Int))).length = 0 := by omega
          have none1 : ∀ l ∈ ls, bt l.nm (48 - (n + 1)) = false := fun l hl => by
            cases q : bt l.nm (48 - (n + 1)) with
            | false => rfl
            | true =>
              have := List.mem_filter.mpr ⟨hl, (p1f l).mpr q⟩
              rw [List.length_eq_zero_iff.mp l0] at this
              cases this
          rw [none1 a ha, none1 b hb]
        · have l0 : (ls.filter (p0 ((48 - (n + 1) : Nat) : Int))).length = 0 := by omega
          have none0 : ∀ l ∈ ls, bt l.nm (48 - (n + 1)) = true := fun l hl => by
            cases q : bt l.nm (48 - (n + 1)) with
            | true => rfl
            | false =>
              have := List.mem_filter.mpr ⟨hl, (p0f l).mpr q⟩
              rw [List.length_eq_zero_iff.mp l0] at this
              cases this
          rw [none0 a ha, none0 b hb]
end SG

namespace SG
open PySem L2
/-! ### answers of a tree in order are answers of its leaves in order -/
structure Ord (q : Nat) (t : T) : Prop where
  ok : TOk q t
  up : Up t.lvs
theorem Ord.l {q : Nat} {a b : T} (h : Ord q (.br a b)) : Ord q a := ⟨h.ok.l, (List.pairwise_append.mp h.up).1⟩
theorem Ord.r {q : Nat} {a b : T} (h : Ord q (.br a b)) : Ord q b := ⟨h.ok.r, (List.pairwise_append.mp h.up).2.1⟩
theorem Ord.lr {q : Nat} {a b : T} (h : Ord q (.br a b)) : ∀ x ∈ a.lvs, ∀ y ∈ b.lvs, num x.nm < num y.nm := (List.pairwise_append.mp h.up).2.2
theorem Ord.nm {q : Nat} {t : T} (h : Ord q t) : ∀ x ∈ t.lvs, Nm x.nm := fun x hx => (h.ok x hx).nm
theorem lvs_ne : ∀ t : T, t.lvs ≠ []
  | .lf l => by simp [T.lvs]
  | .br a b => by simp [T.lvs, lvs_ne a]
theorem Ord.lo {q : Nat} {t : T} (h : Ord q t) : ∀ x ∈ t.lvs, num (least t) ≤ num x.nm := by
  induction t with
  | lf l =>
    intro x hx
    have : x = l := by simpa [T.lvs] using hx
    rw [this]
    exact Int.le_refl _
  | br a b iha ihb =>
    intro x hx
    rcases List.mem_append.mp hx with hx | hx
    · exact iha h.l x hx
    · obtain ⟨l, hl, e⟩ := least_mem a
      have := h.lr l hl x hx
      rw [e] at this
      exact Int.le_of_lt this
theorem Ord.hi {q : Nat} {t : T} (h : Ord q t) : ∀ x ∈ t.lvs, num x.nm ≤ num (great t) := by
  induction t with
  | lf l =>
    intro x hx
    have : x = l := by simpa [T.lvs] using hx
    rw [this]
    exact Int.le_refl _
  | br a b iha ihb =>
    intro x hx
    rcases List.mem_append.mp hx with hx | hx
    · obtain ⟨l, hl, e⟩ := great_mem b
      have := h.lr x hx l hl
      rw [e] at this
      exact Int.le_of_lt this
    · exact ihb h.r x hx
theorem summ_cnt (p : Int) : ∀ t : T, (summ p t).cnt = (t.lvs.length : Nat)
  | .lf l => rfl
  | .br a b => by
    show (summ p a).cnt + (summ p b).cnt = ((a.lvs ++ b.lvs).length : Nat)
    rw [summ_cnt p a, summ_cnt p b, List.length_append]
    omega
def sumsR (q : Nat) (ls : List Lf) : List Int := (List.range q).map (sumAt ls)
theorem sumAt_app (a b : List Lf) (m : Nat) : sumAt (a ++ b) m = sumAt a m + sumAt b m := by
  unfold sumAt
  rw [List.map_append, List.sum_append]
theorem sumsR_app (q : Nat) (a b : List Lf) : sumsR q (a ++ b) = List.zipWith (· + ·) (sumsR q a) (sumsR q b) := by
  unfold sumsR
  rw [List.zipWith_map, List.zipWith_self]
  exact List.map_congr_left fun m _ => sumAt_app a b m
theorem sumsL_ne {q : Nat} {ls : List Lf} (h : ls ≠ []) : sumsL q ls = some (sumsR q ls) := by
  cases ls with
  | nil => exact absurd rfl h
  | cons a r => rfl
theorem sums_lf {q : Nat} {l : Lf} (h : LfOk q l) : l.ws = sumsR q [l] := by
  refine List.ext_getElem? fun m => ?_
  unfold sumsR
  rw [List.getElem?_map]
  by_cases c : m < q
  · rw [List.getElem?_range c]
    have hm : m < l.ws.length := by rw [h.wl]; exact c
    show _ = some (sumAt [l] m)
    unfold sumAt
    rw [List.map_singleton, List.sum_singleton, List.getElem?_eq_getElem hm]
    rfl
  · rw [List.getElem?_eq_none (by rw [h.wl]; omega), List.getElem?_eq_none (by rw [List.length_range]; omega)]
    rfl
theorem summ_sums (p : Int) {q : Nat} : ∀ {t : T}, TOk q t → (summ p t).sums = sumsR q t.lvs
  | .lf l, h => sums_lf h.lf
  | .br a b, h => by
    show List.zipWith (· + ·) (summ p a).sums (summ p b).sums = sumsR q (a.lvs ++ b.lvs)
    rw [summ_sums p h.l, summ_sums p h.r, sumsR_app]
/-- getL -/
theorem getL_no {ls : List Lf} {x : Str} (h : ∀ l ∈ ls, l.nm ≠ x) : getL ls x = none := by
  induction ls with
  | nil => rfl
  | cons a r ih =>
    show (if a.nm = x then some a else getL r x) = none
    rw [if_neg (h a (List.mem_cons_self ..)), ih fun l hl => h l (List.mem_cons_of_mem _ hl)]
theorem getL_some {ls : List Lf} {x : Str} {l : Lf} (h : getL ls x = some l) : l ∈ ls ∧ l.nm = x := by
  induction ls with
  | nil => cases h
  | cons a r ih =>
    by_cases c : a.nm = x
    · have e : getL (a :: r) x = some a := if_pos c
      rw [e] at h
      cases h
      exact ⟨List.mem_cons_self .., c⟩
    · have e : getL (a :: r) x = getL r x := if_neg c
      rw [e] at h
      exact ⟨List.mem_cons_of_mem _ (ih h).1, (ih h).2⟩
theorem getL_app (a b : List Lf) (x : Str) : getL (a ++ b) x = match getL a x with
    | some l => some l
    | none => getL b x := by
  induction a with
  | nil => rfl
  | cons c r ih =>
    by_cases h : c.nm = x
    · have e1 : getL ((c :: r) ++ b) x = some c := if_pos h
      have e2 : getL (c :: r) x = some c := if_pos h
      rw [e1, e2]
    · have e1 : getL ((c :: r) ++ b) x = getL (r ++ b) x := if_neg h
      have e2 : getL (c :: r) x = getL r x := if_neg h
      rw [e1, e2, ih]
theorem getL_perm {ls ss : List Lf} (p : ss.Perm ls) (nd : (ls.map Lf.nm).Nodup) (x : Str) : getL ls x = getL ss x := by
  have nd2 : (ss.map Lf.nm).Nodup := (p.map Lf.nm).nodup_iff.mpr nd
  cases e : getL ss x with
  | some l =>
    obtain ⟨h1, h2⟩ := getL_some e
    rw [← h2]
    exact getL_mem nd (p.mem_iff.mp h1)
  | none =>
    refine getL_no fun l hl c => ?_
    have := getL_mem nd2 (p.mem_iff.mpr hl)
    rw [c, e] at this
    cases this
section
variable {p : Int} {q : Nat}
theorem tans_leaf {x : Str} (hx : Nm x) : ∀ {t : T}, Ord q t → ans p t (.leaf x) = optA (getL t.lvs x)
  | .lf l, h => by
    have hl := h.ok.lf.nm
    show (leafTold x (summ p (.lf l))).getD (.lf l.ws l.ns) = optA (if l.nm = x then some l else none)
    unfold leafTold
    show (if num l.nm ≤ num x ∧ num x ≤ num l.nm then none else some An.non).getD _ = _
    by_cases c : l.nm = x
    · rw [if_pos c, if_pos ⟨by rw [c]; exact Int.le_refl _, by rw [c]; exact Int.le_refl _⟩]
      rfl
    · rw [if_neg c, if_neg fun z => c (nm_eq hl hx (Int.le_antisymm z.1 z.2))]
      rfl
  | .br a b, h => by
    show (leafTold x (summ p (.br a b))).getD (if num x ≤ num (summ p a).hi then ans p a (.leaf x) else ans p b (.leaf x)) = optA (getL (a.lvs ++ b.lvs) x)
    unfold leafTold
    rw [summ_lo, summ_hi, summ_hi, getL_app]
    by_cases c : num (least (.br a b)) ≤ num x ∧ num x ≤ num (great (.br a b))
    · rw [if_pos c]
      show (if num x ≤ num (great a) then ans p a (.leaf x) else ans p b (.leaf x)) = _
      by_cases d : num x ≤ num (great a)
      · rw [if_pos d, tans_leaf hx h.l]
        have nb : getL b.lvs x = none := getL_no fun l hl e => by
          obtain ⟨g, hg, eg⟩ := great_mem a
          have := h.lr g hg l hl
          rw [eg, e] at this
          omega
        rw [nb]
        cases getL a.lvs x <;> rfl
      · rw [if_neg d, tans_leaf hx h.r]
        have na : getL a.lvs x = none := getL_no fun l hl e => by
          have := h.l.hi l hl
          rw [e] at this
          omega
        rw [na]
    · rw [if_neg c]
      have na : getL a.lvs x = none := getL_no fun l hl e => c (by
        have h1 := h.lo l (List.mem_append_left _ hl)
        have h2 := h.hi l (List.mem_append_left _ hl)
        rw [e] at h1 h2
        exact ⟨h1, h2⟩)
      have nb : getL b.lvs x = none := getL_no fun l hl e => c (by
        have h1 := h.lo l (List.mem_append_right _ hl)
        have h2 := h.hi l (List.mem_append_right _ hl)
        rw [e] at h1 h2
        exact ⟨h1, h2⟩)
      rw [na, nb]
      rfl
theorem inR_iff {x y : Str} (hx : Nm x) (hy : Nm y) {l : Lf} (hl : Nm l.nm) : inR x y l = true ↔ num x ≤ num l.nm ∧ num l.nm ≤ num y := by
  unfold inR
  simp only [Bool.and_eq_true, Bool.not_eq_true', decide_eq_false_iff_not]
  rw [nm_lt hl hx, nm_lt hy hl]
  omega
theorem ltN_iff {x : Str} (hx : Nm x) {l : Lf} (hl : Nm l.nm) : ltN x l = true ↔ num l.nm < num x := by
  unfold ltN
  rw [decide_eq_true_iff]
  exact nm_lt hl hx
theorem gtN_iff {x : Str} (hx : Nm x) {l : Lf} (hl : Nm l.nm) : gtN x l = true ↔ num x < num l.nm := by
  unfold gtN
  rw [decide_eq_true_iff]
  exact nm_lt hx hl
theorem filter_no {α : Type} {f : α → Bool} {l : List α} (h : ∀ x ∈ l, f x ≠ true) : l.filter f = [] := List.filter_eq_nil_iff.mpr h
theorem filter_all {α : Type} {f : α → Bool} {l : List α} (h : ∀ x ∈ l, f x = true) : l.filter f = l := List.filter_eq_self.mpr h
def rngA (q : Nat) (x y : Str) (ls : List Lf) : An := .rng ((ls.filter (inR x y)).length : Nat) (sumsL q (ls.filter (inR x y)))
theorem rng_told {x y : Str} (hx : Nm x) (hy : Nm y) {t : T} (h : Ord q t) {a : An} (e : rangeTold x y (summ p t) = some a) : a = rngA q x y t.lvs := by
  unfold rangeTold at e
  rw [summ_lo, summ_hi] at e
  unfold rngA
  by_cases c : num (great t) < num x ∨ num y < num (least t) ∨ num y < num x
  · rw [if_pos c] at e
    cases e
    rw [filter_no fun l hl z => by
      have i := (inR_iff hx hy (h.nm l hl)).mp z
      have h1 := h.lo l hl
      have h2 := h.hi l hl
      omega]
    rfl
  · rw [if_neg c] at e
    by_cases d : num x ≤ num (least t) ∧ num (great t) ≤ num y
    · rw [if_pos d] at e
      cases e
      rw [filter_all fun l hl => (inR_iff hx hy (h.nm l hl)).mpr (by
        have h1 := h.lo l hl
        have h2 := h.hi l hl
        omega), summ_cnt, sumsL_ne (lvs_ne t), summ_sums p h.ok]
    · rw [if_neg d] at e
      cases e
theorem tans_range {x y : Str} (hx : Nm x) (hy : Nm y) : ∀ {t : T}, Ord q t → ans p t (.range x y) = rngA q x y t.lvs
  | .lf l, h => by
    show (rangeTold x y (summ p (.lf l))).getD (.lf l.ws l.ns) = _
    cases e : rangeTold x y (summ p (.lf l)) with
    | some a => exact rng_told hx hy h e
    | none =>
      exfalso
      unfold rangeTold at e
      rw [summ_lo, summ_hi] at e
      have e1 : least (.lf l) = l.nm := rfl
      have e2 : great (.lf l) = l.nm := rfl
      rw [e1, e2] at e
      by_cases c : num l.nm < num x ∨ num y < num l.nm ∨ num y < num x
      · rw [if_pos c] at e
        cases e
      · rw [if_neg c, if_pos ⟨by omega, by omega⟩] at e
        cases e
  | .br a b, h => by
    show (rangeTold x y (summ p (.br a b))).getD (joinA (ans p a (.range x y)) (ans p b (.range x y))) = _
    cases e : rangeTold x y (summ p (.br a b)) with
    | some a => exact rng_told hx hy h e
    | none =>
      rw [tans_range hx hy h.l, tans_range hx hy h.r]
      show joinA (rngA q x y a.lvs) (rngA q x y b.lvs) = rngA q x y (a.lvs ++ b.lvs)
      unfold rngA
      rw [List.filter_append]
      generalize a.lvs.filter (inR x y) = u
      generalize b.lvs.filter (inR x y) = v
      show (if ((u.length : Nat) : Int) = 0 then _ else _) = _
      cases u with
      | nil => exact if_pos rfl
      | cons u0 u =>
        rw [if_neg (by simp only [List.length_cons]; omega)]
        cases v with
        | nil =>
          rw [List.append_nil]
          exact if_pos rfl
        | cons v0 v =>
          rw [if_neg (by simp only [List.length_cons]; omega), sumsL_ne (by simp), sumsL_ne (by simp), sumsL_ne (by simp), sumsR_app, List.length_append]
          simp only [Option.getD_some, Int.natCast_add]
theorem tans_rank {x : Str} (hx : Nm x) : ∀ {t : T}, Ord q t → ans p t (.rank x) = .int ((t.lvs.filter (ltN x)).length : Nat)
  | t, h => by
    have told : ∀ {a : An}, rankTold x (summ p t) = some a → a = .int ((t.lvs.filter (ltN x)).length : Nat) := fun {a} e => by
      unfold rankTold at e
      rw [summ_lo, summ_hi] at e
      by_cases c : num x ≤ num (least t)
      · rw [if_pos c] at e
        cases e
        rw [filter_no fun l hl z => by
          have i := (ltN_iff hx (h.nm l hl)).mp z
          have h1 := h.lo l hl
          omega]
        rfl
      · rw [if_neg c] at e
        by_cases d : num (great t) < num x
        · rw [if_pos d] at e
          cases e
          rw [filter_all fun l hl => (ltN_iff hx (h.nm l hl)).mpr (by
            have h2 := h.hi l hl
            omega), summ_cnt]
        · rw [if_neg d] at e
          cases e
    cases t with
    | lf l =>
      show (rankTold x (summ p (.lf l))).getD (.lf l.ws l.ns) = _
      cases e : rankTold x (summ p (.lf l)) with
      | some a => exact told e
      | none =>
        exfalso
        unfold rankTold at e
        rw [summ_lo, summ_hi] at e
        have e1 : least (.lf l) = l.nm := rfl
        have e2 : great (.lf l) = l.nm := rfl
        rw [e1, e2] at e
        by_cases c : num x ≤ num l.nm
        · rw [if_pos c] at e
          cases e
        · rw [if_neg c, if_pos (by omega)] at e
          cases e
    | br a b =>
      show (rankTold x (summ p (.br a b))).getD (addA (ans p a (.rank x)) (ans p b (.rank x))) = _
      cases e : rankTold x (summ p (.br a b)) with
      | some a => exact told e
      | none =>
        rw [tans_rank hx h.l, tans_rank hx h.r]
        show An.int _ = An.int (((a.lvs ++ b.lvs).filter (ltN x)).length : Nat)
        rw [List.filter_append, List.length_append]
        simp only [Int.natCast_add]
theorem head_least : ∀ t : T, ∃ l r, t.lvs = l :: r ∧ l.nm = least t
  | .lf l => ⟨l, [], rfl, rfl⟩
  | .br a b => by
    obtain ⟨l, r, e, f⟩ := head_least a
    exact ⟨l, r ++ b.lvs, by show a.lvs ++ b.lvs = _; rw [e]; rfl, f⟩
theorem last_great : ∀ t : T, ∃ l, t.lvs[t.lvs.length - 1]? = some l ∧ l.nm = great t
  | .lf l => ⟨l, rfl, rfl⟩
  | .br a b => by
    obtain ⟨l, e, f⟩ := last_great b
    refine ⟨l, ?_, f⟩
    have hb : 0 < b.lvs.length := List.length_pos_iff.mpr (lvs_ne b)
    show (a.lvs ++ b.lvs)[(a.lvs ++ b.lvs).length - 1]? = some l
    rw [List.length_append, List.getElem?_append_right (by omega)]
    have : a.lvs.length + b.lvs.length - 1 - a.lvs.length = b.lvs.length - 1 := by omega
    rw [this, e]
theorem tans_place : ∀ {t : T} {n : Int}, 0 ≤ n → ans p t (.place n) = optN t.lvs[n.toNat]?
  | t, n, hn => by
    have told : ∀ {a : An}, placeTold n (summ p t) = some a → a = optN t.lvs[n.toNat]? := fun {a} e => by
      unfold placeTold at e
      rw [summ_lo, summ_hi, summ_cnt] at e
      by_cases c : ((t.lvs.length : Nat) : Int) ≤ n
      · rw [if_pos c] at e
        cases e
        rw [List.getElem?_eq_none (by omega)]
        rfl
      · rw [if_neg c] at e
        by_cases d : n = 0
        · rw [if_pos d] at e
          cases e
          obtain ⟨l, r, e1, e2⟩ := head_least t
          rw [d, e1, ← e2]
          rfl
        · rw [if_neg d] at e
          by_cases f : n = ((t.lvs.length : Nat) : Int) - 1
          · rw [if_pos f] at e
            cases e
            obtain ⟨l, e1, e2⟩ := last_great t
            have : n.toNat = t.lvs.length - 1 := by omega
            rw [this, e1, ← e2]
            rfl
          · rw [if_neg f] at e
            cases e
    cases t with
    | lf l =>
      show (placeTold n (summ p (.lf l))).getD (.lf l.ws l.ns) = _
      cases e : placeTold n (summ p (.lf l)) with
      | some a => exact told e
      | none =>
        exfalso
        unfold placeTold at e
        rw [summ_cnt] at e
        have e1 : (((T.lf l).lvs.length : Nat) : Int) = 1 := rfl
        rw [e1] at e
        by_cases c : (1 : Int) ≤ n
        · rw [if_pos c] at e
          cases e
        · rw [if_neg c, if_pos (by omega)] at e
          cases e
    | br a b =>
      show (placeTold n (summ p (.br a b))).getD (if n < (summ p a).cnt then ans p a (.place n) else ans p b (.place (n - (summ p a).cnt))) = _
      cases e : placeTold n (summ p (.br a b)) with
      | some a => exact told e
      | none =>
        show (if n < (summ p a).cnt then ans p a (.place n) else ans p b (.place (n - (summ p a).cnt))) = optN (a.lvs ++ b.lvs)[n.toNat]?
        rw [summ_cnt]
        by_cases c : n < ((a.lvs.length : Nat) : Int)
        · rw [if_pos c, tans_place hn, List.getElem?_append_left (by omega)]
        · rw [if_neg c, tans_place (by omega), List.getElem?_append_right (by omega)]
          have : (n - ((a.lvs.length : Nat) : Int)).toNat = n.toNat - a.lvs.length := by omega
          rw [this]
theorem tans_next {x : Str} (hx : Nm x) : ∀ {t : T}, Ord q t → ans p t (.next x) = optN (t.lvs.filter (gtN x)).head?
  | t, h => by
    have told : ∀ {a : An}, nextTold x (summ p t) = some a → a = optN (t.lvs.filter (gtN x)).head? := fun {a} e => by
      unfold nextTold at e
      rw [summ_lo, summ_hi] at e
      by_cases c : num x < num (least t)
      · rw [if_pos c] at e
        cases e
        rw [filter_all fun l hl => (gtN_iff hx (h.nm l hl)).mpr (by
          have h1 := h.lo l hl
          omega)]
        obtain ⟨l, r, e1, e2⟩ := head_least t
        rw [e1, ← e2]
        rfl
      · rw [if_neg c] at e
        by_cases d : num (great t) ≤ num x
        · rw [if_pos d] at e
          cases e
          rw [filter_no fun l hl z => by
            have i := (gtN_iff hx (h.nm l hl)).mp z
            have h2 := h.hi l hl
            omega]
          rfl
        · rw [if_neg d] at e
          cases e
    cases t with
    | lf l =>
      show (nextTold x (summ p (.lf l))).getD (.lf l.ws l.ns) = _
      cases e : nextTold x (summ p (.lf l)) with
      | some a => exact told e
      | none =>
        exfalso
        unfold nextTold at e
        rw [summ_lo, summ_hi] at e
        have e1 : least (.lf l) = l.nm := rfl
        have e2 : great (.lf l) = l.nm := rfl
        rw [e1, e2] at e
        by_cases c : num x < num l.nm
        · rw [if_pos c] at e
          cases e
        · rw [if_neg c, if_pos (by omega)] at e
          cases e
    | br a b =>
      show (nextTold x (summ p (.br a b))).getD (if num x < num (summ p a).hi then ans p a (.next x) else ans p b (.next x)) = _
      cases e : nextTold x (summ p (.br a b)) with
      | some a => exact told e
      | none =>
        show (if num x < num (summ p a).hi then ans p a (.next x) else ans p b (.next x)) = optN ((a.lvs ++ b.lvs).filter (gtN x)).head?
        rw [summ_hi, List.filter_append]
        by_cases c : num x < num (great a)
        · rw [if_pos c, tans_next hx h.l]
          obtain ⟨g, hg, eg⟩ := great_mem a
          have mg : g ∈ a.lvs.filter (gtN x) := List.mem_filter.mpr ⟨hg, (gtN_iff hx (h.l.nm g hg)).mpr (by rw [eg]; exact c)⟩
          cases ef : a.lvs.filter (gtN x) with
          | nil =>
            rw [ef] at mg
            cases mg
          | cons u r => rfl
        · rw [if_neg c, tans_next hx h.r]
          rw [filter_no (l := a.lvs) fun l hl z => by
            have i := (gtN_iff hx (h.l.nm l hl)).mp z
            have h2 := h.l.hi l hl
            omega]
          rfl
theorem tans_count (t : T) : ans p t .count = .int (t.lvs.length : Nat) := by
  rw [← summ_cnt p]
  cases t <;> rfl
theorem tans_total {t : T} (h : Ord q t) : ans p t .total = optS (sumsL q t.lvs) := by
  rw [sumsL_ne (lvs_ne t), ← summ_sums p h.ok]
  cases t <;> rfl
theorem ask_law {ls : List Lf} {t : T} (h : Ord q t) (pm : t.lvs.Perm ls) (nd : (ls.map Lf.nm).Nodup) {x : Qn} (hx : QnOk x) : askA p (some t) x = lawA q ls t.lvs x := by
  cases x with
  | leaf x => exact (tans_leaf hx h).trans (congrArg optA (getL_perm pm nd x).symm)
  | several l =>
    show An.sev _ = An.sev _
    congr 1
    exact List.map_congr_left fun x m => (tans_leaf (hx.2 x m) h).trans (congrArg optA (getL_perm pm nd x).symm)
  | count => exact tans_count t
  | total => exact tans_total h
  | range x y => exact tans_range hx.1 hx.2 h
  | rank x => exact tans_rank hx h
  | place n => exact tans_place hx
  | next x => exact tans_next hx h
end
theorem math : MathT := by
  intro k ls hk1 hk3 hok hnd hln
  have hnm : ∀ l ∈ ls, Nm l.nm := fun l h => (hok l h).nm
  by_cases e : ls = []
  · subst e
    refine ⟨none, [], .inl ⟨rfl, rfl⟩, fun t h => (by cases h), rfl, sorted_mk hnm (List.Perm.refl _) List.Pairwise.nil, fun p q hq => ?_⟩
    cases q with
    | leaf x => rfl
    | several l =>
      show An.sev _ = An.sev _
      congr 1
    | count => rfl
    | total => rfl
    | range x y => rfl
    | rank x => rfl
    | place n => rfl
    | next x => rfl
  · have hd : ls.Pairwise fun a b => num a.nm ≠ num b.nm := by
      have h := List.pairwise_map.mp hnd
      exact h.imp_of_mem fun {a b} ha hb ne z => ne (nm_eq (hnm a ha) (hnm b hb) z)
    obtain ⟨t, et, g⟩ := split_good 48 ls (Nat.le_refl _) e hnm hd fun a _ b _ j hj => absurd hj (Nat.not_lt_zero _)
    have od : Ord k t := ⟨fun l h => hok l (g.perm.mem_iff.mp h), g.up⟩
    refine ⟨some t, t.lvs, .inr ⟨t, e, et, rfl⟩, fun t' h => ?_, g.ord, sorted_mk hnm g.perm g.up, fun p q hq => ask_law od g.perm hnd hq⟩
    cases h
    exact ⟨od.ok, by have := g.dep; omega⟩
end SG

namespace SG
open PySem L2 PySem.Spec PyProof.Rows
theorem all_mk {P : Program} {w : World} {K : PySem.W.Frag} {h : Heap} {mg : Str → Option Value} {fa fL C eRow WR : Addr} {oc : Value} {od an : Option Addr} {osl : Array (Option Value)} {kV doc pm cdv ct : Value} (MT : MathT) (X : K.In h) (G : h.Ns mainGlobals mg) (hfa : mg "law" = some (.ref fa))
    (a : PySem.W.nsIn K mainGlobals "law" = some (some (.ref fL))) (l : K.lookup fL = some ⟨oc, od, .func (PySem.W.fnOf "law" "law" (defArgs s_law) (defBody s_law) (defScope s_law) .none kV doc pm an cdv ct), osl⟩) (c : PySem.W.codeIn K cdv "law" = true) (k : PySem.W.keepIn K (.ref fL) = true)
    (S : Defs K mg) (T : Txt K mg C eRow) (SE : MethAt K C "seal" "Sealer.seal" s_seal) (SI : InitAt K mg C s___init__) (W : WrK P K mg WR) :
    ∃ fd : FuncData, (∀ (s : Shared) (v : Value), BindsTo s fd ⟨[v], []⟩ [("_law_script", v)]) ∧ ∀ base : Heap, K.In base → base.Ns mainGlobals mg → FnOk P w K mg base CX0 74 fa fd ["_law_script"] (spD K Rlaw) := by
  have e := hfa.symm.trans (PySem.W.mg_of X G a)
  cases e
  exact ⟨PySem.W.fnOf "law" "law" (defArgs s_law) (defBody s_law) (defScope s_law) .none kV doc pm an cdv ct, fun s v => .of_eq rfl, fun base _ _ => whole MT (fun_mk l c k) S T SE SI (W.at base)⟩
theorem law_sp {K : PySem.W.Frag} {H : Hp} {a : Addr} {ns : List Int} {E : XK} (hS : SqL K H a (ns.map V.int)) (hl : ns.length ≤ 63) : spD K Rlaw [.ref a] H (fun v _ => v = .bl true) E :=
  ⟨H, [.sq (ns.map .int)], .bl true, Same.refl H, .cons (.sq hS DenL.ints) .nil, ⟨ns, hl, rfl, rfl⟩, fun r G' H' _ d => by cases d; rfl⟩
/-- the end: the law's promise at the heap that the top has left, the loose names' values at hand -/
theorem walk {l : PySem.W.OpenLaw} {q p : Program} {loose : List Str} {lv : List (Str × PySem.W.WData)} {YP : World → Heap → Prop} {d : DefRec} {K : Params → PySem.W.Frag} (h63 : l.most = some 63) (hdf : d.params.defaults = [])
    (kn : ∀ (w : World) (g : Heap), YP w g → (K w.params).In g)
    (F : ∀ (w : World) (mg : Str → Option Value) (fa : Addr) (h : Heap), (K w.params).In h → h.Ns mainGlobals mg → PySem.W.LooseAre lv mg h → mg d.name = some (.ref fa) →
      ∃ fd : FuncData, (∀ (s : Shared) (u : Value), BindsTo s fd ⟨[u], []⟩ [("_law_script", u)]) ∧ ∀ base : Heap, (K w.params).In base → base.Ns mainGlobals mg → FnOk l.prog w (K w.params) mg base CX0 74 fa fd ["_law_script"] (spD (K w.params) Rlaw)) :
    PySem.W.WalkO q loose (PySem.W.XL p lv) YP l.row.toRowW d [] (fun f vs => PySem.call f vs) := by
  refine Att.attach_call (n := 63) h63 hdf fun w s0 s1 mg mb fa o pm cd doc a vs ns Gd Y _ _ _ hmg hobj hints hlen hg => ?_
  obtain ⟨fd, hb, hF⟩ := F w mg fa _ (kn w _ Y) Gd.T.g Gd.X.2 hmg
  exact law_call (k := 74) (kn w _ Y) Gd.T.g Gd.T.b Gd.T.builtins Gd.T.nolimit hg hobj hints (Nat.le_trans hlen (by decide)) ⟨rfl, by decide, by decide⟩ hF hb (fun H _ hS => law_sp hS hlen) fun H e s' z => z
end SG

open PySem PySem.W PyProof.Rows
set_option maxRecDepth 100000 in
set_option maxHeartbeats 0 in
theorem PySem.Challenge.cw_sumgrove_k07_answers_of_whole_trees_holds : PySem.Challenge.rw_sumgrove_k07_answers_of_whole_trees.Holds := by
  w_on; o_law; k_head; (case hw => w_witness2)
  k_fill
  refine SG.walk (l := PySem.Challenge.rw_sumgrove_k07_answers_of_whole_trees) rfl rfl (fun w h Y => PySem.W.kIn_of Y) ?F
  case F =>
    intro w mg fa h KX G V hmg
    refine' SG.all_mk SG.math KX G hmg ?a ?l ?c ?k ?S ?T ?SE ?SI ?W
    (case a => k_is); (case l => k_is); (case c => k_is); (case k => k_is)
    case S =>
      refine' SG.Defs.mk ?d_number_of ?d__law_number ?d_is_name ?d_bit_at ?d_parting ?d_least_of ?d_greatest_of ?d_leaf_row ?d_summary_numbers ?d_branch_row ?d_branch_summary ?d_summary_of ?d_top_row ?d_root_of ?d_are_worths ?d_are_notes ?d_is_leaf ?d_is_inside ?d_are_sides ?d_kinds_of ?d_has_valid_parts ?d_has_order ?d_is_well_formed ?d_leaf_told ?d_range_told ?d_rank_told ?d_place_told ?d_next_told ?d_told ?d_side_questions ?d_joined_ranges ?d_branch_answer ?d_part_answer ?d_empty_answer ?d_ask ?d__law_cell ?d__law_name ?d__law_modulus ?d__law_seal ?d__law_numbers ?d__law_row ?d__law_summary ?d__law_top ?d__law_root ?d__law_bits ?d__law_split ?d__law_built ?d__law_question ?d__law_sums ?d__law_leaves ?d__law_answer ?d_answer ?d__law_checked
      (case d_number_of => refine' SG.defAt_mk KX G ?a ?l ?c ?k; (case a => k_is); (case l => k_is); (case c => k_is); (case k => k_is))
      (case d__law_number => refine' SG.defAt_mk KX G ?a ?l ?c ?k; (case a => k_is); (case l => k_is); (case c => k_is); (case k => k_is))
      (case d_is_name => refine' SG.defAt_mk KX G ?a ?l ?c ?k; (case a => k_is); (case l => k_is); (case c => k_is); (case k => k_is))
      (case d_bit_at => refine' SG.defAt_mk KX G ?a ?l ?c ?k; (case a => k_is); (case l => k_is); (case c => k_is); (case k => k_is))
      (case d_parting => refine' SG.defAt_mk KX G ?a ?l ?c ?k; (case a => k_is); (case l => k_is); (case c => k_is); (case k => k_is))
      (case d_least_of => refine' SG.defAt_mk KX G ?a ?l ?c ?k; (case a => k_is); (case l => k_is); (case c => k_is); (case k => k_is))
      (case d_greatest_of => refine' SG.defAt_mk KX G ?a ?l ?c ?k; (case a => k_is); (case l => k_is); (case c => k_is); (case k => k_is))
      (case d_leaf_row => refine' SG.defAt_mk KX G ?a ?l ?c ?k; (case a => k_is); (case l => k_is); (case c => k_is); (case k => k_is))
      (case d_summary_numbers => refine' SG.defAt_mk KX G ?a ?l ?c ?k; (case a => k_is); (case l => k_is); (case c => k_is); (case k => k_is))
      (case d_branch_row => refine' SG.defAt_mk KX G ?a ?l ?c ?k; (case a => k_is); (case l => k_is); (case c => k_is); (case k => k_is))
      (case d_branch_summary => refine' SG.defAt_mk KX G ?a ?l ?c ?k; (case a => k_is); (case l => k_is); (case c => k_is); (case k => k_is))
      (case d_summary_of => refine' SG.defAt_mk KX G ?a ?l ?c ?k; (case a => k_is); (case l => k_is); (case c => k_is); (case k => k_is))
      (case d_top_row => refine' SG.defAt_mk KX G ?a ?l ?c ?k; (case a => k_is); (case l => k_is); (case c => k_is); (case k => k_is))
      (case d_root_of => refine' SG.defAt_mk KX G ?a ?l ?c ?k; (case a => k_is); (case l => k_is); (case c => k_is); (case k => k_is))
      (case d_are_worths => refine' SG.defAt_mk KX G ?a ?l ?c ?k; (case a => k_is); (case l => k_is); (case c => k_is); (case k => k_is))
      (case d_are_notes => refine' SG.defAt_mk KX G ?a ?l ?c ?k; (case a => k_is); (case l => k_is); (case c => k_is); (case k => k_is))
      (case d_is_leaf => refine' SG.defAt_mk KX G ?a ?l ?c ?k; (case a => k_is); (case l => k_is); (case c => k_is); (case k => k_is))
      (case d_is_inside => refine' SG.defAt_mk KX G ?a ?l ?c ?k; (case a => k_is); (case l => k_is); (case c => k_is); (case k => k_is))
      (case d_are_sides => refine' SG.defAt_mk KX G ?a ?l ?c ?k; (case a => k_is); (case l => k_is); (case c => k_is); (case k => k_is))
      (case d_kinds_of => refine' SG.defAt_mk KX G ?a ?l ?c ?k; (case a => k_is); (case l => k_is); (case c => k_is); (case k => k_is))
      (case d_has_valid_parts => refine' SG.defAt_mk KX G ?a ?l ?c ?k; (case a => k_is); (case l => k_is); (case c => k_is); (case k => k_is))
      (case d_has_order => refine' SG.defAt_mk KX G ?a ?l ?c ?k; (case a => k_is); (case l => k_is); (case c => k_is); (case k => k_is))
      (case d_is_well_formed => refine' SG.defAt_mk KX G ?a ?l ?c ?k; (case a => k_is); (case l => k_is); (case c => k_is); (case k => k_is))
      (case d_leaf_told => refine' SG.defAt_mk KX G ?a ?l ?c ?k; (case a => k_is); (case l => k_is); (case c => k_is); (case k => k_is))
      (case d_range_told => refine' SG.defAt_mk KX G ?a ?l ?c ?k; (case a => k_is); (case l => k_is); (case c => k_is); (case k => k_is))
      (case d_rank_told => refine' SG.defAt_mk KX G ?a ?l ?c ?k; (case a => k_is); (case l => k_is); (case c => k_is); (case k => k_is))
      (case d_place_told => refine' SG.defAt_mk KX G ?a ?l ?c ?k; (case a => k_is); (case l => k_is); (case c => k_is); (case k => k_is))
      (case d_next_told => refine' SG.defAt_mk KX G ?a ?l ?c ?k; (case a => k_is); (case l => k_is); (case c => k_is); (case k => k_is))
      (case d_told => refine' SG.defAt_mk KX G ?a ?l ?c ?k; (case a => k_is); (case l => k_is); (case c => k_is); (case k => k_is))
      (case d_side_questions => refine' SG.defAt_mk KX G ?a ?l ?c ?k; (case a => k_is); (case l => k_is); (case c => k_is); (case k => k_is))
      (case d_joined_ranges => refine' SG.defAt_mk KX G ?a ?l ?c ?k; (case a => k_is); (case l => k_is); (case c => k_is); (case k => k_is))
      (case d_branch_answer => refine' SG.defAt_mk KX G ?a ?l ?c ?k; (case a => k_is); (case l => k_is); (case c => k_is); (case k => k_is))
      (case d_part_answer => refine' SG.defAt_mk KX G ?a ?l ?c ?k; (case a => k_is); (case l => k_is); (case c => k_is); (case k => k_is))
      (case d_empty_answer => refine' SG.defAt_mk KX G ?a ?l ?c ?k; (case a => k_is); (case l => k_is); (case c => k_is); (case k => k_is))
      (case d_ask => refine' SG.defAt_mk KX G ?a ?l ?c ?k; (case a => k_is); (case l => k_is); (case c => k_is); (case k => k_is))
      (case d__law_cell => refine' SG.defAt_mk KX G ?a ?l ?c ?k; (case a => k_is); (case l => k_is); (case c => k_is); (case k => k_is))
      (case d__law_name => refine' SG.defAt_mk KX G ?a ?l ?c ?k; (case a => k_is); (case l => k_is); (case c => k_is); (case k => k_is))
      (case d__law_modulus => refine' SG.defAt_mk KX G ?a ?l ?c ?k; (case a => k_is); (case l => k_is); (case c => k_is); (case k => k_is))
      (case d__law_seal => refine' SG.defAt_mk KX G ?a ?l ?c ?k; (case a => k_is); (case l => k_is); (case c => k_is); (case k => k_is))
      (case d__law_numbers => refine' SG.defAt_mk KX G ?a ?l ?c ?k; (case a => k_is); (case l => k_is); (case c => k_is); (case k => k_is))
      (case d__law_row => refine' SG.defAt_mk KX G ?a ?l ?c ?k; (case a => k_is); (case l => k_is); (case c => k_is); (case k => k_is))
      (case d__law_summary => refine' SG.defAt_mk KX G ?a ?l ?c ?k; (case a => k_is); (case l => k_is); (case c => k_is); (case k => k_is))
      (case d__law_top => refine' SG.defAt_mk KX G ?a ?l ?c ?k; (case a => k_is); (case l => k_is); (case c => k_is); (case k => k_is))
      (case d__law_root => refine' SG.defAt_mk KX G ?a ?l ?c ?k; (case a => k_is); (case l => k_is); (case c => k_is); (case k => k_is))
      (case d__law_bits => refine' SG.defAt_mk KX G ?a ?l ?c ?k; (case a => k_is); (case l => k_is); (case c => k_is); (case k => k_is))
      (case d__law_split => refine' SG.defAt_mk KX G ?a ?l ?c ?k; (case a => k_is); (case l => k_is); (case c => k_is); (case k => k_is))
      (case d__law_built => refine' SG.defAt_mk KX G ?a ?l ?c ?k; (case a => k_is); (case l => k_is); (case c => k_is); (case k => k_is))
      (case d__law_question => refine' SG.defAt_mk KX G ?a ?l ?c ?k; (case a => k_is); (case l => k_is); (case c => k_is); (case k => k_is))
      (case d__law_sums => refine' SG.defAt_mk KX G ?a ?l ?c ?k; (case a => k_is); (case l => k_is); (case c => k_is); (case k => k_is))
      (case d__law_leaves => refine' SG.defAt_mk KX G ?a ?l ?c ?k; (case a => k_is); (case l => k_is); (case c => k_is); (case k => k_is))
      (case d__law_answer => refine' SG.defAt_mk KX G ?a ?l ?c ?k; (case a => k_is); (case l => k_is); (case c => k_is); (case k => k_is))
      (case d_answer => refine' SG.defAt_mk KX G ?a ?l ?c ?k; (case a => k_is); (case l => k_is); (case c => k_is); (case k => k_is))
      (case d__law_checked => refine' SG.defAt_mk KX G ?a ?l ?c ?k; (case a => k_is); (case l => k_is); (case c => k_is); (case k => k_is))
    case SI =>
      refine' SG.initAt_mk ?gC ?mk ?ia ?ii ?ikc ?il ?ic ?ik
      (case gC => refine' PySem.W.mg_of KX G ?gCx; (case gCx => k_is)); (case mk => k_is); (case ia => k_is); (case ii => k_is); (case ikc => k_is); (case il => k_is); (case ic => k_is); (case ik => k_is)
    case SE =>
      refine' SG.methAt_mk ?sa1 ?si1 ?sl1 ?sc1 ?sk1; (case sa1 => k_is); (case si1 => k_is); (case sl1 => k_is); (case sc1 => k_is); (case sk1 => k_is)
    case W =>
      refine' SG.wr_mk KX G ?aC ?xL ?rv ?sa ?ga ?gg ?no ?a1 ?t1 ?l1 ?c1 ?lc ?ld ?lv ?lf ?kC ?eC ?tC ?hC ?iC ?sC ?iK ?sup ?sv ?mC ?stat ?sp0 ?ha ?hn ?ht ?hm ?gG ?kG ?gI ?kI ?gB ?tp
      (case aC => k_is); (case xL => k_is); (case rv => rfl); (case sa => k_is); (case ga => k_is); (case gg => k_is); (case no => k_is); (case a1 => k_is); (case t1 => k_is); (case l1 => k_is); (case c1 => k_is)
      (case lc => k_is); (case ld => k_is); (case lv => rfl); (case lf => rfl); (case kC => k_is); (case eC => k_is); (case tC => k_is); (case hC => k_is); (case iC => k_is); (case sC => first | k_is | rfl); (case iK => kx_is); (case sup => kernel_rfl); (case sv => k_is); (case mC => first | k_is | rfl)
      (case stat => k_is); (case sp0 => k_is); (case ha => k_is); (case hn => k_is); (case ht => k_is); (case hm => k_is); (case gG => k_is); (case kG => kernel_rfl); (case gI => k_is); (case kI => kernel_rfl); (case gB => k_is); (case tp => first | rfl | kernel_rfl)
    case T =>
      refine' SG.Txt.mk ?z_len ?z_int ?z_abs ?z_list ?z_tuple ?z_sum ?z_all ?z_sorted ?z_range ?z_zip ?g_ALPHABET ?g_NAME_LIMIT ?g_PLACES ?g_KIND_LIMIT ?g_AMOUNT_LIMIT ?g_NOTE_LIMIT ?g_NOTE_GREATEST ?g_LEAST_MODULUS ?g_GREATEST_MODULUS ?g_EMPTY_ROW ?eRow ?cl ?nM
      (case z_len => exact PySem.W.mg_none_of KX G (by k_is))
      (case z_int => exact PySem.W.mg_none_of KX G (by k_is))
      (case z_abs => exact PySem.W.mg_none_of KX G (by k_is))
      (case z_list => exact PySem.W.mg_none_of KX G (by k_is))
      (case z_tuple => exact PySem.W.mg_none_of KX G (by k_is))
      (case z_sum => exact PySem.W.mg_none_of KX G (by k_is))
      (case z_all => exact PySem.W.mg_none_of KX G (by k_is))
      (case z_sorted => exact PySem.W.mg_none_of KX G (by k_is))
      (case z_range => exact PySem.W.mg_none_of KX G (by k_is))
      (case z_zip => exact PySem.W.mg_none_of KX G (by k_is))
      (case g_ALPHABET => refine' SG.mgS KX G ?a; (case a => k_is))
      (case g_NAME_LIMIT => refine' SG.mgI KX G ?a; (case a => k_is))
      (case g_KIND_LIMIT => refine' SG.mgI KX G ?a; (case a => k_is))
      (case g_NOTE_LIMIT => refine' SG.mgI KX G ?a; (case a => k_is))
      (case g_LEAST_MODULUS => refine' SG.mgI KX G ?a; (case a => k_is))
      (case g_PLACES => exact SG.mgL V (by simp))
      (case g_AMOUNT_LIMIT => exact SG.mgL V (by simp))
      (case g_NOTE_GREATEST => exact SG.mgL V (by simp))
      (case g_GREATEST_MODULUS => exact SG.mgL V (by simp))
      (case g_EMPTY_ROW => refine' PySem.W.mg_of KX G ?gEx; (case gEx => k_is))
      (case eRow => refine' SG.eRow_mk ?l ?c ?d ?e; (case l => k_is); (case c => rfl); (case d => rfl); (case e => rfl))
      (case cl => refine' SG.cls_mk ?pg ?hd ?po ?sa; (case pg => k_is); (case hd => k_is); (case po => k_is); (case sa => k_is))
      (case nM => show PySem.W.findIn _ _ _ = _; k_is)
#print axioms PySem.Challenge.cw_sumgrove_k07_answers_of_whole_trees_holds
