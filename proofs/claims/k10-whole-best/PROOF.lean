import PyProof.Rows.All
import Wide.All
import OpenK.AllK
import Wide.FinOn
import HandS.ForMost
import HandS.Zip
import HandS.IsInst
import HandS.Gcd
import HandS.Wide
import HandS.WideBits
import HandS.TupMul
import HandS.TupAny
import HandS.Conv
import HandS.Flow
import KE.GoesNew
import HandS.Style
import PySem.Challenge.RW_deedhouses_k10_whole_best_beside_all_cho
import HandS.DictComp
import HandS.Ends
set_option Elab.async false
set_option linter.all false
set_option maxRecDepth 100000

set_option maxHeartbeats 4000000
/-! A layer of judgements over data: what an expression is worth, with no heap in sight. -/
namespace Ab
open PySem PySem.Spec PyProof.Rows L2

mutual
/-- v stands for the datum d (lists: tracked ones) -/
inductive Rp (K : PySem.W.Frag) (H : Hp) : V → PyData → Prop
  | non : Rp K H .non .none
  | bl (b : Bool) : Rp K H (.bl b) (.bool b)
  | int (i : Int) : Rp K H (.int i) (.int i)
  | str (x : Str) : Rp K H (.str x) (.str x)
  | lst {a : Addr} {xs : List V} {ds : List PyData} : H a = some (.lst xs) → RpAll K H xs ds → Rp K H (.ref a) (.list ds)
  | tup {a : Addr} {xs : List V} {ds : List PyData} : SqT K H a xs → RpAll K H xs ds → Rp K H (.ref a) (.tuple ds)
inductive RpAll (K : PySem.W.Frag) (H : Hp) : List V → List PyData → Prop
  | nil : RpAll K H [] []
  | cons {v : V} {vs : List V} {d : PyData} {ds : List PyData} : Rp K H v d → RpAll K H vs ds → RpAll K H (v :: vs) (d :: ds)
end

theorem sqt_mono {K : PySem.W.Frag} {H H' : Hp} (e : Same H H') {a : Addr} {xs : List V} (h : SqT K H a xs) : SqT K H' a xs := by
  rcases h with (h | ⟨o, h⟩) | h
  · exact .inl (.inl (e _ _ h))
  · exact .inl (.inr ⟨o, e _ _ h⟩)
  · exact .inr h
mutual
theorem Rp.mono {K : PySem.W.Frag} {H H' : Hp} (e : Same H H') : ∀ {v : V} {d : PyData}, Rp K H v d → Rp K H' v d
  | _, _, .non => .non
  | _, _, .bl b => .bl b
  | _, _, .int i => .int i
  | _, _, .str x => .str x
  | _, _, .lst h r => .lst (e _ _ h) (RpAll.mono e r)
  | _, _, .tup h r => .tup (sqt_mono e h) (RpAll.mono e r)
theorem RpAll.mono {K : PySem.W.Frag} {H H' : Hp} (e : Same H H') : ∀ {vs : List V} {ds : List PyData}, RpAll K H vs ds → RpAll K H' vs ds
  | _, _, .nil => .nil
  | _, _, .cons h r => .cons (Rp.mono e h) (RpAll.mono e r)
end
mutual
theorem Rp.dp {K : PySem.W.Frag} {H : Hp} : ∀ {v : V} {d : PyData}, Rp K H v d → Dp K H v d
  | _, _, .non => .non
  | _, _, .bl b => .bl b
  | _, _, .int i => .int i
  | _, _, .str x => .str x
  | _, _, .lst h r => .lst (SqL.of h) (RpAll.dp r)
  | _, _, .tup h r => .tup h (RpAll.dp r)
theorem RpAll.dp {K : PySem.W.Frag} {H : Hp} : ∀ {vs : List V} {ds : List PyData}, RpAll K H vs ds → DpAll K H vs ds
  | _, _, .nil => .nil
  | _, _, .cons h r => .cons (Rp.dp h) (RpAll.dp r)
end

section
variable {K : PySem.W.Frag} {H H' : Hp}
theorem RpAll.length : ∀ {vs : List V} {ds : List PyData}, RpAll K H vs ds → vs.length = ds.length
  | _, _, .nil => rfl
  | _, _, .cons _ r => by rw [List.length_cons, List.length_cons, RpAll.length r]
theorem RpAll.get : ∀ {vs : List V} {ds : List PyData} {i : Nat} {d : PyData}, RpAll K H vs ds → ds[i]? = some d → ∃ v, vs[i]? = some v ∧ Rp K H v d
  | _, _, _, _, .nil, e => by simp at e
  | _, _, 0, _, .cons h _, e => by
    have e' := Option.some.inj e
    subst e'
    exact ⟨_, rfl, h⟩
  | _, _, i + 1, d, .cons _ r, e => RpAll.get (i := i) (d := d) r e
theorem RpAll.append : ∀ {vs us : List V} {ds es : List PyData}, RpAll K H vs ds → RpAll K H us es → RpAll K H (vs ++ us) (ds ++ es)
  | _, _, _, _, .nil, s => s
  | _, _, _, _, .cons h r, s => .cons h (RpAll.append r s)
theorem RpAll.set {x : V} {d : PyData} (h : Rp K H x d) : ∀ {vs : List V} {ds : List PyData} (i : Nat), RpAll K H vs ds → RpAll K H (vs.set i x) (ds.set i d)
  | _, _, _, .nil => .nil
  | _, _, 0, .cons _ r => .cons h r
  | _, _, i + 1, .cons q r => .cons q (RpAll.set h i r)
theorem RpAll.take : ∀ {vs : List V} {ds : List PyData} (n : Nat), RpAll K H vs ds → RpAll K H (vs.take n) (ds.take n)
  | _, _, 0, _ => .nil
  | _, _, _ + 1, .nil => .nil
  | _, _, n + 1, .cons h r => .cons h (RpAll.take n r)
theorem RpAll.drop : ∀ {vs : List V} {ds : List PyData} (n : Nat), RpAll K H vs ds → RpAll K H (vs.drop n) (ds.drop n)
  | _, _, 0, r => r
  | _, _, _ + 1, .nil => .nil
  | _, _, n + 1, .cons _ r => RpAll.drop n r
theorem RpAll.rep {vs : List V} {ds : List PyData} (h : RpAll K H vs ds) : ∀ n : Nat, RpAll K H (List.replicate n vs).flatten (List.replicate n ds).flatten
  | 0 => .nil
  | n + 1 => by
    rw [List.replicate_succ, List.replicate_succ, List.flatten_cons, List.flatten_cons]
    exact RpAll.append h (RpAll.rep h n)
theorem RpAll.ints : ∀ ns : List Int, RpAll K H (ns.map V.int) (ns.map PyData.int)
  | [] => .nil
  | n :: r => .cons (.int n) (RpAll.ints r)
theorem RpAll.nil_iff {vs : List V} {ds : List PyData} (h : RpAll K H vs ds) : ds = [] ↔ vs = [] := by
  have e := h.length
  constructor
  · rintro rfl
    exact List.eq_nil_of_length_eq_zero e
  · rintro rfl
    exact List.eq_nil_of_length_eq_zero e.symm
theorem RpAll.intsOf : ∀ {vs : List V} {ns : List Int}, RpAll K H vs (ns.map PyData.int) → vs = ns.map V.int
  | [], [], _ => rfl
  | _, n :: ns, h => by
    cases h with
    | cons a r =>
      cases a
      rw [RpAll.intsOf r]
      rfl
theorem RpAll.boolsOf : ∀ {vs : List V} {bs : List Bool}, RpAll K H vs (bs.map PyData.bool) → vs = bs.map V.bl
  | [], [], _ => rfl
  | _, n :: ns, h => by
    cases h with
    | cons a r =>
      cases a
      rw [RpAll.boolsOf r]
      rfl
end

/-! ### heaps and states -/
def hid (H : Hp) (O : List Addr) : Hp := fun b => if b ∈ O then none else H b
theorem hid_some {H : Hp} {O : List Addr} {b : Addr} {o : HO} : hid H O b = some o ↔ b ∉ O ∧ H b = some o := by
  unfold hid
  by_cases h : b ∈ O
  · rw [if_pos h]
    exact ⟨(fun z => nomatch z), (fun z => absurd h z.1)⟩
  · rw [if_neg h]
    exact ⟨fun z => ⟨h, z⟩, fun z => z.2⟩
theorem hid_sub (H : Hp) (O : List Addr) : Same (hid H O) H := fun _ _ h => (hid_some.mp h).2
theorem hid_mono {H : Hp} {O O' : List Addr} (h : ∀ a ∈ O', a ∈ O) : Same (hid H O) (hid H O') := fun b o e =>
  hid_some.mpr ⟨fun z => (hid_some.mp e).1 (h b z), (hid_some.mp e).2⟩
theorem hid_ext {H H' : Hp} (O : List Addr) (h : Same H H') : Same (hid H O) (hid H' O) := fun b o e =>
  hid_some.mpr ⟨(hid_some.mp e).1, h b o (hid_some.mp e).2⟩
theorem same_new {H : Hp} {p : Addr} {o : HO} (h : H p = none) : Same H (upd H p o) := fun b x e => by
  rw [upd_ne (ne_of_none e h)]
  exact e

/-- a def's view: its heap at the entry, what its callers own, its spring's address -/
structure Vw where
  Hb : Hp
  O0 : List Addr
  sa : Option Addr
/-- what a slot holds: nothing that is known; a datum; a list that is its own; the spring; the script -/
inductive Sl where
  | no
  | val (d : PyData)
  | own (xs : List PyData)
  | spr
  | scr (ns : List Int)
  | dct (kvs : List (Int × PyData))

/-- a table's pairs stand for data -/
structure RpK (K : PySem.W.Frag) (H : Hp) (vs : List (Key × V)) (kvs : List (Int × PyData)) : Prop where
  keys : vs.map (·.1) = kvs.map fun p => Sum.inl p.1
  vals : RpAll K H (vs.map (·.2)) (kvs.map (·.2))
theorem RpK.mono {K : PySem.W.Frag} {H H' : Hp} (e : Same H H') {vs : List (Key × V)} {kvs : List (Int × PyData)} (h : RpK K H vs kvs) : RpK K H' vs kvs := ⟨h.keys, h.vals.mono e⟩

def SlOk (K : PySem.W.Frag) (W : Vw) (O : List Addr) (H : Hp) (σ : L2.St) (i : Nat) : Sl → Prop
  | .no => True
  | .val d => ∃ v, σ[i]? = some (some v) ∧ Rp K (hid H O) v d
  | .own xs => ∃ a vs, σ[i]? = some (some (.ref a)) ∧ a ∈ O ∧ W.sa ≠ some a ∧ W.Hb a = none ∧ H a = some (.lst vs) ∧ RpAll K (hid H O) vs xs
  | .spr => ∃ a, σ[i]? = some (some (.ref a)) ∧ W.sa = some a
  | .scr ns => ∃ a, σ[i]? = some (some (.ref a)) ∧ SqL K (hid H O) a (ns.map V.int)
  | .dct kvs => ∃ a vs, σ[i]? = some (some (.ref a)) ∧ hid H O a = some (.dK vs) ∧ RpK K (hid H O) vs kvs

def Spr (H : Hp) (a : Addr) : Prop := ∃ x y z : Int, H a = some (.lst [.int x, .int y, .int z])

structure StO (K : PySem.W.Frag) (W : Vw) (O : List Addr) (H : Hp) (σ : L2.St) (es : List Sl) : Prop where
  sub : ∀ a ∈ W.O0, a ∈ O
  occ : ∀ a ∈ O, H a ≠ none
  frm : ∀ b o, W.sa ≠ some b → W.Hb b = some o → H b = some o
  spr : ∀ a, W.sa = some a → a ∈ O ∧ Spr H a
  slot : ∀ (i : Nat) (e : Sl), es[i]? = some e → SlOk K W O H σ i e
  dist : ∀ (i j : Nat) (xs ys : List PyData) (a : Addr), es[i]? = some (.own xs) → es[j]? = some (.own ys) → σ[i]? = some (some (.ref a)) → σ[j]? = some (some (.ref a)) → i = j
  len : σ.length = es.length
  o0 : ∀ a ∈ W.O0, W.Hb a ≠ none

/-- all but the spring stands as it stood -/
def Fx (W : Vw) (H H' : Hp) : Prop := ∀ b o, W.sa ≠ some b → H b = some o → H' b = some o
theorem Fx.refl (W : Vw) (H : Hp) : Fx W H H := fun _ _ _ h => h
theorem Fx.trans {W : Vw} {H H1 H2 : Hp} (a : Fx W H H1) (b : Fx W H1 H2) : Fx W H H2 := fun c o n h => b c o n (a c o n h)
theorem Same.fx {W : Vw} {H H' : Hp} (h : Same H H') : Fx W H H' := fun b o _ e => h b o e

/-- a statement's step: what is not its own stands; what it owns behind it was its own or is new -/
structure Trn (O : List Addr) (H : Hp) (O' : List Addr) (H' : Hp) : Prop where
  own : ∀ a ∈ O', a ∈ O ∨ H a = none
  keep : ∀ b o, b ∉ O → H b = some o → H' b = some o
theorem Trn.refl (O : List Addr) (H : Hp) : Trn O H O H := ⟨fun _ h => .inl h, fun _ _ _ h => h⟩
theorem Trn.trans {O O1 O2 : List Addr} {H H1 H2 : Hp} (a : Trn O H O1 H1) (b : Trn O1 H1 O2 H2) : Trn O H O2 H2 := by
  refine ⟨fun c hc => ?_, fun c o hc e => ?_⟩
  · rcases b.own c hc with h | h
    · exact a.own c h
    · by_cases hO : c ∈ O
      · exact .inl hO
      · right
        cases q : H c with
        | none => rfl
        | some o =>
          have := a.keep c o hO q
          rw [h] at this
          cases this
  · have e1 := a.keep c o hc e
    refine b.keep c o (fun z => ?_) e1
    rcases a.own c z with h | h
    · exact hc h
    · rw [e] at h
      cases h
theorem Trn.hid {O O' : List Addr} {H H' : Hp} (t : Trn O H O' H') : Same (hid H O) (hid H' O') := fun b o e => by
  obtain ⟨h1, h2⟩ := hid_some.mp e
  refine hid_some.mpr ⟨fun z => ?_, t.keep b o h1 h2⟩
  rcases t.own b z with h | h
  · exact h1 h
  · rw [h2] at h
    cases h

section
variable {K : PySem.W.Frag} {W : Vw} {O : List Addr} {H H' : Hp} {σ : L2.St} {es : List Sl}
theorem StO.fx_hid (S : StO K W O H σ es) (f : Fx W H H') : Same (Ab.hid H O) (Ab.hid H' O) := fun b o e => by
  obtain ⟨h1, h2⟩ := hid_some.mp e
  exact hid_some.mpr ⟨h1, f b o (fun z => h1 (S.spr b z).1) h2⟩
theorem StO.trn (S : StO K W O H σ es) (f : Fx W H H') : Trn O H O H' := ⟨fun _ h => .inl h, fun b o hb e => f b o (fun z => hb (S.spr b z).1) e⟩
theorem SlOk.mono {O' : List Addr} {i : Nat} {e : Sl} (hh : Same (Ab.hid H O) (Ab.hid H' O')) (ho : ∀ a vs xs, e = .own xs → σ[i]? = some (some (.ref a)) → a ∈ O → W.sa ≠ some a → H a = some (.lst vs) → a ∈ O' ∧ H' a = some (.lst vs)) (h : SlOk K W O H σ i e) : SlOk K W O' H' σ i e := by
  cases e with
  | no => trivial
  | val d =>
    obtain ⟨v, e1, r⟩ := h
    exact ⟨v, e1, r.mono hh⟩
  | own xs =>
    obtain ⟨a, vs, e1, m, n, b, e2, r⟩ := h
    obtain ⟨m', e2'⟩ := ho a vs xs rfl e1 m n e2
    exact ⟨a, vs, e1, m', n, b, e2', r.mono hh⟩
  | spr => exact h
  | scr ns =>
    obtain ⟨a, e1, r⟩ := h
    refine ⟨a, e1, ?_⟩
    rcases r with (h | ⟨o, h⟩) | h
    · exact .inl (.inl (hh _ _ h))
    · exact .inl (.inr ⟨o, hh _ _ h⟩)
    · exact .inr h
  | dct kvs =>
    obtain ⟨a, vs, e1, e2, r⟩ := h
    exact ⟨a, vs, e1, hh _ _ e2, r.mono hh⟩
/-- behind an expression -/
theorem StO.fx (S : StO K W O H σ es) (f : Fx W H H') (hs : ∀ a, W.sa = some a → Spr H' a) : StO K W O H' σ es where
  sub := S.sub
  occ := fun a ha => by
    by_cases h : W.sa = some a
    · obtain ⟨x, y, z, e⟩ := hs a h
      rw [e]
      exact fun z => nomatch z
    · cases q : H a with
      | none => exact absurd q (S.occ a ha)
      | some o =>
        rw [f a o h q]
        exact fun z => nomatch z
  frm := fun b o n e => f b o n (S.frm b o n e)
  spr := fun a ha => ⟨(S.spr a ha).1, hs a ha⟩
  slot := fun i e he => (S.slot i e he).mono (S.fx_hid f) fun a vs _ _ _ m n q => ⟨m, f a _ n q⟩
  dist := S.dist
  len := S.len
  o0 := S.o0
theorem StO.same (S : StO K W O H σ es) (f : Same H H') : StO K W O H' σ es :=
  S.fx (Same.fx f) fun a ha => by
    obtain ⟨x, y, z, e⟩ := (S.spr a ha).2
    exact ⟨x, y, z, f _ _ e⟩
theorem StO.newO (S : StO K W O H σ es) {a : Addr} (h : H a = none) : a ∉ O := fun z => S.occ a z h
theorem StO.newB (S : StO K W O H σ es) {a : Addr} (h : H a = none) : W.Hb a = none := by
  cases q : W.Hb a with
  | none => rfl
  | some o =>
    by_cases z : W.sa = some a
    · exact absurd h (S.occ a (S.spr a z).1)
    · have := S.frm a o z q
      rw [h] at this
      cases this
theorem StO.newS (S : StO K W O H σ es) {a : Addr} (h : H a = none) : W.sa ≠ some a := fun z => S.occ a (S.spr a z).1 h
theorem StO.val (S : StO K W O H σ es) {i : Nat} {d : PyData} (h : es[i]? = some (.val d)) : ∃ v, σ[i]? = some (some v) ∧ Rp K (Ab.hid H O) v d := S.slot i _ h
/-- a slot gets a datum -/
theorem StO.set (S : StO K W O H σ es) (i : Nat) {v : V} {d : PyData} (r : Rp K (Ab.hid H O) v d) : StO K W O H (σ.set i (some v)) (es.set i (.val d)) where
  sub := S.sub
  occ := S.occ
  frm := S.frm
  spr := S.spr
  slot := fun j e he => by
    by_cases hj : i = j
    · subst hj
      by_cases hl : i < es.length
      · rw [List.getElem?_set_self hl] at he
        have he := Option.some.inj he
        subst he
        exact ⟨v, List.getElem?_set_self (by rw [S.len]; exact hl), r⟩
      · rw [List.getElem?_eq_none (by rw [List.length_set]; omega)] at he
        cases he
    · rw [List.getElem?_set_ne hj] at he
      have q := S.slot j e he
      cases e with
      | no => trivial
      | val d =>
        obtain ⟨w, e1, r1⟩ := q
        exact ⟨w, by rw [List.getElem?_set_ne hj]; exact e1, r1⟩
      | own xs =>
        obtain ⟨a, vs, e1, r1⟩ := q
        exact ⟨a, vs, by rw [List.getElem?_set_ne hj]; exact e1, r1⟩
      | spr =>
        obtain ⟨a, e1, r1⟩ := q
        exact ⟨a, by rw [List.getElem?_set_ne hj]; exact e1, r1⟩
      | scr ns =>
        obtain ⟨a, e1, r1⟩ := q
        exact ⟨a, by rw [List.getElem?_set_ne hj]; exact e1, r1⟩
      | dct kvs =>
        obtain ⟨a, vs, e1, r1⟩ := q
        exact ⟨a, vs, by rw [List.getElem?_set_ne hj]; exact e1, r1⟩
  dist := fun j k xs ys a h1 h2 h3 h4 => by
    have nj : ∀ {j : Nat} {xs : List PyData}, (es.set i (Sl.val d))[j]? = some (.own xs) → i ≠ j := fun {j xs} h z => by
      subst z
      by_cases hl : i < es.length
      · rw [List.getElem?_set_self hl] at h
        cases h
      · rw [List.getElem?_eq_none (by rw [List.length_set]; omega)] at h
        cases h
    have n1 := nj h1
    have n2 := nj h2
    rw [List.getElem?_set_ne n1] at h1 h3
    rw [List.getElem?_set_ne n2] at h2 h4
    exact S.dist j k xs ys a h1 h2 h3 h4
  len := by rw [List.length_set, List.length_set, S.len]
  o0 := S.o0
end
end Ab

set_option maxHeartbeats 4000000
/-! Expressions: what they are worth. -/
namespace Ab
open PySem PySem.Spec PyProof.Rows L2

/-! ### the weakest readings -/
structure TEr (X : Cx) (e : Expr) (σ : L2.St) (H : Hp) (Q : VK) : Prop where
  go : ∀ (pins : List (Addr × Obj)) (s : Shared), Inv X pins σ H s → wpAny (model X.prog X.w) X.A (eval e X.env) (EP X pins σ Q) X.xe s
structure TTr (X : Cx) (e : Expr) (σ : L2.St) (H : Hp) (Q : Bool → Hp → Prop) : Prop where
  go : ∀ (pins : List (Addr × Obj)) (s : Shared), Inv X pins σ H s → wpAny (model X.prog X.w) X.A (isTrue e X.env (eval e X.env)) (TP X pins σ Q) X.xe s
structure TWr (X : Cx) (e : Expr) (σ : L2.St) (H : Hp) (Q : Bool → Hp → Prop) : Prop where
  go : ∀ (whole : Sem Value) (pins : List (Addr × Obj)) (s : Shared), Inv X pins σ H s → wpAny (model X.prog X.w) X.A (isTrue e X.env whole) (TP X pins σ Q) X.xe s
structure TAr (X : Cx) (es : List Expr) (σ : L2.St) (H : Hp) (Q : List V → Hp → Prop) : Prop where
  go : ∀ (pos : Pos) (pins : List (Addr × Obj)) (s : Shared), Inv X pins σ H s → wpAny (model X.prog X.w) X.A (spliced (backTo pos (starEach es X.env))) (AP X pins σ Q) X.xe s
def TEs (X : Cx) (e : Expr) : TE := fun σ H Q => TEr X e σ H Q
def TTs (X : Cx) (e : Expr) : TT := fun σ H Q => TTr X e σ H Q
def TWs (X : Cx) (e : Expr) : TT := fun σ H Q => TWr X e σ H Q
def TAs (X : Cx) (es : List Expr) : TA := fun σ H Q => TAr X es σ H Q
theorem pe_s {X : Cx} {e : Expr} : PE X e (TEs X e) := ⟨fun pins s _ _ _ I h => h.go pins s I⟩
theorem pt_s {X : Cx} {e : Expr} : PT X e (TTs X e) := ⟨fun pins s _ _ _ I h => h.go pins s I⟩
theorem pw_s {X : Cx} {e : Expr} : PW X e (TWs X e) := ⟨fun wh pins s _ _ _ I h => h.go wh pins s I⟩
theorem pa_s {X : Cx} {es : List Expr} : PA X es (TAs X es) := ⟨fun pos pins s _ _ _ I h => h.go pos pins s I⟩
section
variable {X : Cx} {e : Expr} {σ : L2.St} {H : Hp}
theorem tes_of {t : TE} {Q : VK} (h : PE X e t) (q : t σ H Q) : TEs X e σ H Q := ⟨fun pins s I => h.run pins s σ H Q I q⟩
theorem tts_of {t : TT} {Q : Bool → Hp → Prop} (h : PT X e t) (q : t σ H Q) : TTs X e σ H Q := ⟨fun pins s I => h.run pins s σ H Q I q⟩
theorem tws_of {t : TT} {Q : Bool → Hp → Prop} (h : PW X e t) (q : t σ H Q) : TWs X e σ H Q := ⟨fun wh pins s I => h.run wh pins s σ H Q I q⟩
theorem tas_of {es : List Expr} {t : TA} {Q : List V → Hp → Prop} (h : PA X es t) (q : t σ H Q) : TAs X es σ H Q := ⟨fun pos pins s I => h.run pos pins s σ H Q I q⟩
end

/-! ### the judgements -/
def Is (d : PyData) : PyData → Prop := fun x => x = d
def IsL (ds : List PyData) : List PyData → Prop := fun x => x = ds
def IsB (b : Bool) : Bool → Prop := fun x => x = b
def BoolD (P : Bool → Prop) : PyData → Prop := fun d => ∃ k, d = .bool k ∧ P k
def Eval (X : Cx) (e : Expr) (es : List Sl) (P : PyData → Prop) : Prop :=
  ∀ (W : Vw) (O : List Addr) (σ : L2.St) (H : Hp), StO X.K W O H σ es → ∀ Q : VK, (∀ v H' d, Fx W H H' → StO X.K W O H' σ es → P d → Rp X.K (hid H' O) v d → Q v H') → TEs X e σ H Q
/-- a new list -/
def EvalN (X : Cx) (e : Expr) (es : List Sl) (P : List PyData → Prop) : Prop :=
  ∀ (W : Vw) (O : List Addr) (σ : L2.St) (H : Hp), StO X.K W O H σ es → ∀ Q : VK, (∀ a vs H' xs, Fx W H H' → StO X.K W O H' σ es → P xs → H a = none → H' a = some (.lst vs) → RpAll X.K (hid H' (a :: O)) vs xs → Q (.ref a) H') → TEs X e σ H Q
def EvalT (X : Cx) (e : Expr) (es : List Sl) (P : Bool → Prop) : Prop :=
  ∀ (W : Vw) (O : List Addr) (σ : L2.St) (H : Hp), StO X.K W O H σ es → ∀ Q : Bool → Hp → Prop, (∀ b H', Fx W H H' → StO X.K W O H' σ es → P b → Q b H') → TTs X e σ H Q
def EvalW (X : Cx) (e : Expr) (es : List Sl) (P : Bool → Prop) : Prop :=
  ∀ (W : Vw) (O : List Addr) (σ : L2.St) (H : Hp), StO X.K W O H σ es → ∀ Q : Bool → Hp → Prop, (∀ b H', Fx W H H' → StO X.K W O H' σ es → P b → Q b H') → TWs X e σ H Q
def EvalA (X : Cx) (as : List Expr) (es : List Sl) (P : List PyData → Prop) : Prop :=
  ∀ (W : Vw) (O : List Addr) (σ : L2.St) (H : Hp), StO X.K W O H σ es → ∀ Q : List V → Hp → Prop, (∀ vs H' ds, Fx W H H' → StO X.K W O H' σ es → P ds → RpAll X.K (hid H' O) vs ds → Q vs H') → TAs X as σ H Q
/-- an operation on data -/
def OpD (K : PySem.W.Frag) (r : R2) (d1 d2 : PyData) (P : PyData → Prop) : Prop :=
  ∀ (O : List Addr) (x y : V) (H : Hp), (∀ a ∈ O, H a ≠ none) → Rp K (hid H O) x d1 → Rp K (hid H O) y d2 → ∀ Q : VK, (∀ z H' d, Same H H' → P d → Rp K (hid H' O) z d → Q z H') → r x y H Q
def UnD (K : PySem.W.Frag) (r : V → Hp → VK → Prop) (d1 : PyData) (P : PyData → Prop) : Prop :=
  ∀ (O : List Addr) (x : V) (H : Hp), (∀ a ∈ O, H a ≠ none) → Rp K (hid H O) x d1 → ∀ Q : VK, (∀ z H' d, Same H H' → P d → Rp K (hid H' O) z d → Q z H') → r x H Q
def CallD (K : PySem.W.Frag) (r : List V → Hp → VK → Prop) (ds : List PyData) (P : PyData → Prop) : Prop :=
  ∀ (O : List Addr) (vs : List V) (H : Hp), (∀ a ∈ O, H a ≠ none) → RpAll K (hid H O) vs ds → ∀ Q : VK, (∀ z H' d, Same H H' → P d → Rp K (hid H' O) z d → Q z H') → r vs H Q

section
variable {X : Cx} {e a b c : Expr} {es : List Sl} {P Pa Pb : PyData → Prop} {pos : Pos} {K : PySem.W.Frag}

theorem Eval.weak (h : Eval X e es Pa) (w : ∀ d, Pa d → P d) : Eval X e es P := fun W O σ H S Q q => h W O σ H S Q fun v H' d f S' p r => q v H' d f S' (w d p) r
theorem Eval.to {d d' : PyData} (h : Eval X e es (Is d)) (w : d = d') : Eval X e es (Is d') := by
  rw [← w]
  exact h
theorem EvalT.weak {P Pa : Bool → Prop} (h : EvalT X e es Pa) (w : ∀ d, Pa d → P d) : EvalT X e es P := fun W O σ H S Q q => h W O σ H S Q fun v H' f S' p => q v H' f S' (w v p)
theorem EvalT.to {b b' : Bool} (h : EvalT X e es (IsB b)) (w : b = b') : EvalT X e es (IsB b') := by
  rw [← w]
  exact h
theorem EvalN.weak {P Pa : List PyData → Prop} (h : EvalN X e es Pa) (w : ∀ d, Pa d → P d) : EvalN X e es P := fun W O σ H S Q q => h W O σ H S Q fun a vs H' xs f S' p n m r => q a vs H' xs f S' (w xs p) n m r
theorem EvalN.to {ds ds' : List PyData} (h : EvalN X e es (IsL ds)) (w : ds = ds') : EvalN X e es (IsL ds') := by
  rw [← w]
  exact h
/-- a new list as a datum -/
theorem rp_new {O : List Addr} {H : Hp} {a : Addr} {vs : List V} {xs : List PyData} (n : a ∉ O) (m : H a = some (.lst vs)) (r : RpAll K (hid H (a :: O)) vs xs) : Rp K (hid H O) (.ref a) (.list xs) :=
  .lst (hid_some.mpr ⟨n, m⟩) (r.mono (hid_mono fun _ h => List.mem_cons_of_mem _ h))
theorem EvalN.ev {P : List PyData → Prop} (h : EvalN X e es P) : Eval X e es (fun d => ∃ xs, d = .list xs ∧ P xs) := fun W O σ H S Q q => h W O σ H S Q fun a vs H' xs f S' p n m r =>
  q _ H' _ f S' ⟨xs, rfl, p⟩ (rp_new (S.newO n) m r)
theorem EvalN.is {xs : List PyData} (h : EvalN X e es (IsL xs)) : Eval X e es (Is (.list xs)) := h.ev.weak fun d ⟨ys, e, p⟩ => by
  have p' : ys = xs := p
  subst p'
  exact e

/-! ### names, constants -/
theorem ev_name {i : Nat} {x : Str} {d : PyData} (he : es[i]? = some (.val d)) (hN : X.N[i]? = some x) (hv : Vis X.env.scope x) (hd : (x == ("__debug__" : Str)) = false := by decide) (hcd : (x == ("__classdict__" : Str)) = false := by decide) : Eval X (.Name x pos) es (Is d) :=
  fun W O σ H S Q q => by
    obtain ⟨v, e1, r⟩ := S.val he
    exact tes_of (pe_var hN hv hd hcd) ⟨v, e1, q v H d (Fx.refl W H) S rfl r⟩
theorem ev_int {i : Int} {j : Nat} : Eval X (.Constant (.int i) j pos) es (Is (.int i)) := fun W O σ H S Q q => tes_of pe_int (q _ H _ (Fx.refl W H) S rfl (.int i))
theorem ev_bool {i : Bool} {j : Nat} : Eval X (.Constant (.bool i) j pos) es (Is (.bool i)) := fun W O σ H S Q q => tes_of pe_bl (q _ H _ (Fx.refl W H) S rfl (.bl i))
theorem ev_non {j : Nat} : Eval X (.Constant .none j pos) es (Is .none) := fun W O σ H S Q q => tes_of pe_non (q _ H _ (Fx.refl W H) S rfl .non)
/-- a module's constant: a datum of the written part -/
theorem ev_glob {x : Str} {v : V} {u : Value} {d : PyData} (hg : Gl X x) (hm : X.mg x = some u) (r : RelV v u) (hd : ∀ H : Hp, Rp X.K H v d) (hdb : (x == ("__debug__" : Str)) = false := by decide) : Eval X (.Name x pos) es (Is d) :=
  fun W O σ H S Q q => tes_of (pe_glob hg hm r hdb) (q _ H _ (Fx.refl W H) S rfl (hd _))

/-! ### operators -/
theorem ev_op {op : Operator} {r : R2} (ho : OpR X (binaryOp op) r) (ha : Eval X a es Pa) (hb : Eval X b es Pb) (hr : ∀ d1 d2, Pa d1 → Pb d2 → OpD X.K r d1 d2 P) : Eval X (.BinOp a op b pos) es P := fun W O σ H S Q q =>
  tes_of (pe_op ho pe_s pe_s) (ha W O σ H S _ fun x H1 d1 f1 S1 p1 r1 => hb W O σ H1 S1 _ fun y H2 d2 f2 S2 p2 r2 =>
    hr d1 d2 p1 p2 O x y H2 S2.occ (r1.mono (S1.fx_hid f2)) r2 Q fun z H3 d f3 p r3 => q z H3 d (f1.trans (f2.trans (Same.fx f3))) (S2.same f3) p r3)
theorem opd_I0 {g : Int → Int → Int} {i j : Int} : OpD K (rI0 fun i j => .int (g i j)) (.int i) (.int j) (Is (.int (g i j))) := fun O x y H _ r1 r2 Q q => by
  cases r1
  cases r2
  exact ⟨i, j, rfl, rfl, q _ H _ (Same.refl H) rfl (.int _)⟩
theorem opd_I {C : Int → Int → Prop} {g : Int → Int → Int} {i j : Int} (hc : C i j) : OpD K (rI C fun i j => .int (g i j)) (.int i) (.int j) (Is (.int (g i j))) := fun O x y H _ r1 r2 Q q => by
  cases r1
  cases r2
  exact ⟨i, j, rfl, rfl, hc, q _ H _ (Same.refl H) rfl (.int _)⟩
theorem opd_B0 {g : Int → Int → Bool} {i j : Int} : OpD K (rI0 fun i j => .bl (g i j)) (.int i) (.int j) (Is (.bool (g i j))) := fun O x y H _ r1 r2 Q q => by
  cases r1
  cases r2
  exact ⟨i, j, rfl, rfl, q _ H _ (Same.refl H) rfl (.bl _)⟩
theorem ev_add {i j : Int} (ha : Eval X a es (Is (.int i))) (hb : Eval X b es (Is (.int j))) : Eval X (.BinOp a .Add b pos) es (Is (.int (i + j))) := ev_op op_add ha hb (by rintro _ _ rfl rfl; exact opd_I0)
theorem ev_sub {i j : Int} (ha : Eval X a es (Is (.int i))) (hb : Eval X b es (Is (.int j))) : Eval X (.BinOp a .Sub b pos) es (Is (.int (i - j))) := ev_op op_sub ha hb (by rintro _ _ rfl rfl; exact opd_I0)
theorem ev_mul {i j : Int} (ha : Eval X a es (Is (.int i))) (hb : Eval X b es (Is (.int j))) (hc : CMulW i j) : Eval X (.BinOp a .Mult b pos) es (Is (.int (i * j))) := ev_op op_mulW ha hb (by rintro _ _ rfl rfl; exact opd_I hc)
theorem ev_mulS {i j : Int} (ha : Eval X a es (Is (.int i))) (hb : Eval X b es (Is (.int j))) (hc : CMul i j) : Eval X (.BinOp a .Mult b pos) es (Is (.int (i * j))) := ev_op op_mul ha hb (by rintro _ _ rfl rfl; exact opd_I hc)
theorem ev_mod {i j : Int} (ha : Eval X a es (Is (.int i))) (hb : Eval X b es (Is (.int j))) (hc : 0 < j) : Eval X (.BinOp a .Mod b pos) es (Is (.int (i % j))) := ev_op op_mod ha hb (by rintro _ _ rfl rfl; exact opd_I (C := fun _ j => 0 < j) hc)
theorem ev_fdiv {i j : Int} (ha : Eval X a es (Is (.int i))) (hb : Eval X b es (Is (.int j))) (hc : CDiv i j) : Eval X (.BinOp a .FloorDiv b pos) es (Is (.int (i / j))) := ev_op op_fdiv ha hb (by rintro _ _ rfl rfl; exact opd_I hc)
/-- // where C does it by itself, of any sign -/
def CDivA (i j : Int) : Prop := j ≠ 0 ∧ Builtin.divisionGoesByPylong i j = false
theorem op_fdivA : OpR X (binaryOp .FloorDiv) (rI CDivA fun i j => .int (i.fdiv j)) := by
  intro pins s σ H x y v u Q I rx ry h
  obtain ⟨i, j, rfl, rfl, hc, q⟩ := h
  obtain ⟨t, rfl⟩ := rx
  obtain ⟨t', rfl⟩ := ry
  exact floordiv_int hc.1 ⟨.int _, H, I.tok _, ⟨_, rfl⟩, q⟩ (.inl hc.2)
theorem ev_fdivA {i j : Int} (ha : Eval X a es (Is (.int i))) (hb : Eval X b es (Is (.int j))) (hc : CDivA i j) : Eval X (.BinOp a .FloorDiv b pos) es (Is (.int (i.fdiv j))) := ev_op op_fdivA ha hb (by rintro _ _ rfl rfl; exact opd_I hc)
theorem ev_un {op : UnaryOp} {r : V → Hp → VK → Prop} (ho : UnR X (unaryOp op) r) (ha : Eval X a es Pa) (hr : ∀ d1, Pa d1 → UnD X.K r d1 P) : Eval X (.UnaryOp op a pos) es P := fun W O σ H S Q q =>
  tes_of (pe_un ho pe_s) (ha W O σ H S _ fun x H1 d1 f1 S1 p1 r1 => hr d1 p1 O x H1 S1.occ r1 Q fun z H3 d f3 p r3 => q z H3 d (f1.trans (Same.fx f3)) (S1.same f3) p r3)
theorem ev_neg {i : Int} (ha : Eval X a es (Is (.int i))) : Eval X (.UnaryOp .USub a pos) es (Is (.int (-i))) := ev_un un_neg ha (by
  rintro _ rfl O x H _ r Q q
  cases r
  exact ⟨i, rfl, q _ H _ (Same.refl H) rfl (.int _)⟩)

/-! ### comparisons, tests -/
theorem ev_cmp {op : CmpOp} {r : R2} (ho : OpR X (compareOp op) r) (ha : Eval X a es Pa) (hb : Eval X b es Pb) (hr : ∀ d1 d2, Pa d1 → Pb d2 → OpD X.K r d1 d2 P) (hm : behindInMarks op b = false) : Eval X (.Compare a [op] [b] pos) es P := fun W O σ H S Q q =>
  tes_of (pe_cmpR ho pe_s pe_s hm) (ha W O σ H S _ fun x H1 d1 f1 S1 p1 r1 => hb W O σ H1 S1 _ fun y H2 d2 f2 S2 p2 r2 =>
    hr d1 d2 p1 p2 O x y H2 S2.occ (r1.mono (S1.fx_hid f2)) r2 Q fun z H3 d f3 p r3 => q z H3 d (f1.trans (f2.trans (Same.fx f3))) (S2.same f3) p r3)
theorem et_cmp {op : CmpOp} {r : R2} {P : Bool → Prop} (ho : OpR X (compareOp op) r) (ha : Eval X a es Pa) (hb : Eval X b es Pb) (hr : ∀ d1 d2, Pa d1 → Pb d2 → OpD X.K r d1 d2 (BoolD P)) (hm : behindInMarks op b = false) : EvalT X (.Compare a [op] [b] pos) es P := fun W O σ H S Q q =>
  tts_of (pt_cmpR ho pe_s pe_s hm) (ha W O σ H S _ fun x H1 d1 f1 S1 p1 r1 => hb W O σ H1 S1 _ fun y H2 d2 f2 S2 p2 r2 =>
    hr d1 d2 p1 p2 O x y H2 S2.occ (r1.mono (S1.fx_hid f2)) r2 _ fun z H3 d f3 ⟨k, ek, p⟩ r3 => by
      subst ek
      cases r3
      exact ⟨k, rfl, q k H3 (f1.trans (f2.trans (Same.fx f3))) (S2.same f3) p⟩)
theorem boolD {k : Bool} : ∀ d, Is (.bool k) d → BoolD (IsB k) d := fun d h => ⟨k, h, rfl⟩
theorem OpD.weak {r : R2} {d1 d2 : PyData} (h : OpD K r d1 d2 Pa) (w : ∀ d, Pa d → P d) : OpD K r d1 d2 P := fun O x y H oc r1 r2 Q q => h O x y H oc r1 r2 Q fun z H' d f p r3 => q z H' d f (w d p) r3
theorem opd_eqI {i j : Int} : OpD K rEq (.int i) (.int j) (Is (.bool (decide (i = j)))) := fun O x y H _ r1 r2 Q q => by
  cases r1
  cases r2
  refine ⟨rfl, ?_⟩
  have e : decide ((V.int i) = V.int j) = decide (i = j) := by
    by_cases h : i = j
    · rw [decide_eq_true h, decide_eq_true (by rw [h])]
    · rw [decide_eq_false h, decide_eq_false (fun z => h (V.int.inj z))]
  show Q (.bl (decide ((V.int i) = V.int j))) H
  rw [e]
  exact q _ H _ (Same.refl H) rfl (.bl _)
theorem opd_neI {i j : Int} : OpD K rNe (.int i) (.int j) (Is (.bool (!decide (i = j)))) := fun O x y H _ r1 r2 Q q => by
  cases r1
  cases r2
  refine ⟨rfl, ?_⟩
  have e : decide ((V.int i) = V.int j) = decide (i = j) := by
    by_cases h : i = j
    · rw [decide_eq_true h, decide_eq_true (by rw [h])]
    · rw [decide_eq_false h, decide_eq_false (fun z => h (V.int.inj z))]
  show Q (.bl (!decide ((V.int i) = V.int j))) H
  rw [e]
  exact q _ H _ (Same.refl H) rfl (.bl _)
theorem opd_eqS {i j : Str} : OpD K rEq (.str i) (.str j) (Is (.bool (decide (i = j)))) := fun O x y H _ r1 r2 Q q => by
  cases r1
  cases r2
  refine ⟨rfl, ?_⟩
  have e : decide ((V.str i) = V.str j) = decide (i = j) := by
    by_cases h : i = j
    · rw [decide_eq_true h, decide_eq_true (by rw [h])]
    · rw [decide_eq_false h, decide_eq_false (fun z => h (V.str.inj z))]
  show Q (.bl (decide ((V.str i) = V.str j))) H
  rw [e]
  exact q _ H _ (Same.refl H) rfl (.bl _)
theorem opd_neS {i j : Str} : OpD K rNe (.str i) (.str j) (Is (.bool (!decide (i = j)))) := fun O x y H _ r1 r2 Q q => by
  cases r1
  cases r2
  refine ⟨rfl, ?_⟩
  have e : decide ((V.str i) = V.str j) = decide (i = j) := by
    by_cases h : i = j
    · rw [decide_eq_true h, decide_eq_true (by rw [h])]
    · rw [decide_eq_false h, decide_eq_false (fun z => h (V.str.inj z))]
  show Q (.bl (!decide ((V.str i) = V.str j))) H
  rw [e]
  exact q _ H _ (Same.refl H) rfl (.bl _)
theorem ev_lt {i j : Int} (ha : Eval X a es (Is (.int i))) (hb : Eval X b es (Is (.int j))) : Eval X (.Compare a [.Lt] [b] pos) es (Is (.bool (decide (i < j)))) := ev_cmp op_lt ha hb (by rintro _ _ rfl rfl; exact opd_B0) (nomark b)
theorem ev_le {i j : Int} (ha : Eval X a es (Is (.int i))) (hb : Eval X b es (Is (.int j))) : Eval X (.Compare a [.LtE] [b] pos) es (Is (.bool (decide (i ≤ j)))) := ev_cmp op_le ha hb (by rintro _ _ rfl rfl; exact opd_B0) (nomark b)
theorem ev_gt {i j : Int} (ha : Eval X a es (Is (.int i))) (hb : Eval X b es (Is (.int j))) : Eval X (.Compare a [.Gt] [b] pos) es (Is (.bool (decide (j < i)))) := ev_cmp op_gt ha hb (by rintro _ _ rfl rfl; exact opd_B0) (nomark b)
theorem ev_ge {i j : Int} (ha : Eval X a es (Is (.int i))) (hb : Eval X b es (Is (.int j))) : Eval X (.Compare a [.GtE] [b] pos) es (Is (.bool (decide (j ≤ i)))) := ev_cmp op_ge ha hb (by rintro _ _ rfl rfl; exact opd_B0) (nomark b)
theorem ev_eqI {i j : Int} (ha : Eval X a es (Is (.int i))) (hb : Eval X b es (Is (.int j))) : Eval X (.Compare a [.Eq] [b] pos) es (Is (.bool (decide (i = j)))) := ev_cmp op_eq ha hb (by rintro _ _ rfl rfl; exact opd_eqI) (nomark b)
theorem ev_neI {i j : Int} (ha : Eval X a es (Is (.int i))) (hb : Eval X b es (Is (.int j))) : Eval X (.Compare a [.NotEq] [b] pos) es (Is (.bool (!decide (i = j)))) := ev_cmp op_ne ha hb (by rintro _ _ rfl rfl; exact opd_neI) (nomark b)
theorem et_lt {i j : Int} (ha : Eval X a es (Is (.int i))) (hb : Eval X b es (Is (.int j))) : EvalT X (.Compare a [.Lt] [b] pos) es (IsB (decide (i < j))) := et_cmp op_lt ha hb (by rintro _ _ rfl rfl; exact opd_B0.weak boolD) (nomark b)
theorem et_le {i j : Int} (ha : Eval X a es (Is (.int i))) (hb : Eval X b es (Is (.int j))) : EvalT X (.Compare a [.LtE] [b] pos) es (IsB (decide (i ≤ j))) := et_cmp op_le ha hb (by rintro _ _ rfl rfl; exact opd_B0.weak boolD) (nomark b)
theorem et_gt {i j : Int} (ha : Eval X a es (Is (.int i))) (hb : Eval X b es (Is (.int j))) : EvalT X (.Compare a [.Gt] [b] pos) es (IsB (decide (j < i))) := et_cmp op_gt ha hb (by rintro _ _ rfl rfl; exact opd_B0.weak boolD) (nomark b)
theorem et_ge {i j : Int} (ha : Eval X a es (Is (.int i))) (hb : Eval X b es (Is (.int j))) : EvalT X (.Compare a [.GtE] [b] pos) es (IsB (decide (j ≤ i))) := et_cmp op_ge ha hb (by rintro _ _ rfl rfl; exact opd_B0.weak boolD) (nomark b)
theorem et_eqI {i j : Int} (ha : Eval X a es (Is (.int i))) (hb : Eval X b es (Is (.int j))) : EvalT X (.Compare a [.Eq] [b] pos) es (IsB (decide (i = j))) := et_cmp op_eq ha hb (by rintro _ _ rfl rfl; exact opd_eqI.weak boolD) (nomark b)
theorem et_neI {i j : Int} (ha : Eval X a es (Is (.int i))) (hb : Eval X b es (Is (.int j))) : EvalT X (.Compare a [.NotEq] [b] pos) es (IsB (!decide (i = j))) := et_cmp op_ne ha hb (by rintro _ _ rfl rfl; exact opd_neI.weak boolD) (nomark b)
/-- data compared as data -/
theorem opd_eqD {d1 d2 : PyData} (h1 : SeqAt.shaped d1 = true) (h2 : SeqAt.shaped d2 = true) : OpD K (rEqD K) d1 d2 (Is (.bool (PyData.eqv d1 d2))) := fun O x y H _ r1 r2 Q q =>
  ⟨d1, d2, (r1.mono (hid_sub H O)).dp, (r2.mono (hid_sub H O)).dp, h1, h2, q _ H _ (Same.refl H) rfl (.bl _)⟩
theorem opd_neD {d1 d2 : PyData} (h1 : SeqAt.shaped d1 = true) (h2 : SeqAt.shaped d2 = true) : OpD K (rNeD K) d1 d2 (Is (.bool (!PyData.eqv d1 d2))) := fun O x y H _ r1 r2 Q q =>
  ⟨d1, d2, (r1.mono (hid_sub H O)).dp, (r2.mono (hid_sub H O)).dp, h1, h2, q _ H _ (Same.refl H) rfl (.bl _)⟩
theorem ev_eqD {d1 d2 : PyData} (hu : X.A.units + 64 < cLine) (ha : Eval X a es (Is d1)) (hb : Eval X b es (Is d2)) (h1 : SeqAt.shaped d1 = true) (h2 : SeqAt.shaped d2 = true) : Eval X (.Compare a [.Eq] [b] pos) es (Is (.bool (PyData.eqv d1 d2))) :=
  ev_cmp (op_eqD hu) ha hb (by rintro _ _ rfl rfl; exact opd_eqD h1 h2) (nomark b)
theorem et_eqD {d1 d2 : PyData} (hu : X.A.units + 64 < cLine) (ha : Eval X a es (Is d1)) (hb : Eval X b es (Is d2)) (h1 : SeqAt.shaped d1 = true) (h2 : SeqAt.shaped d2 = true) : EvalT X (.Compare a [.Eq] [b] pos) es (IsB (PyData.eqv d1 d2)) :=
  et_cmp (op_eqD hu) ha hb (by rintro _ _ rfl rfl; exact (opd_eqD h1 h2).weak boolD) (nomark b)
theorem et_neD {d1 d2 : PyData} (hu : X.A.units + 64 < cLine) (ha : Eval X a es (Is d1)) (hb : Eval X b es (Is d2)) (h1 : SeqAt.shaped d1 = true) (h2 : SeqAt.shaped d2 = true) : EvalT X (.Compare a [.NotEq] [b] pos) es (IsB (!PyData.eqv d1 d2)) :=
  et_cmp (op_neD hu) ha hb (by rintro _ _ rfl rfl; exact (opd_neD h1 h2).weak boolD) (nomark b)
theorem ev_eqS {i j : Str} (ha : Eval X a es (Is (.str i))) (hb : Eval X b es (Is (.str j))) : Eval X (.Compare a [.Eq] [b] pos) es (Is (.bool (decide (i = j)))) := ev_cmp op_eq ha hb (by rintro _ _ rfl rfl; exact opd_eqS) (nomark b)
theorem et_neS {i j : Str} (ha : Eval X a es (Is (.str i))) (hb : Eval X b es (Is (.str j))) : EvalT X (.Compare a [.NotEq] [b] pos) es (IsB (!decide (i = j))) := et_cmp op_ne ha hb (by rintro _ _ rfl rfl; exact opd_neS.weak boolD) (nomark b)
/-- a op b op' c, of ints -/
theorem ev_chainI {op op' : CmpOp} {g g' : Int → Int → Bool} (ho : OpR X (compareOp op) (rI0 fun i j => .bl (g i j))) (ho' : OpR X (compareOp op') (rI0 fun i j => .bl (g' i j))) {i j k : Int} (ha : Eval X a es (Is (.int i))) (hb : Eval X b es (Is (.int j))) (hc : Eval X c es (Is (.int k)))
    (hm : lastMarks [op, op'] [b, c] = false := by with_unfolding_all rfl) : Eval X (.Compare a [op, op'] [b, c] pos) es (Is (.bool (g i j && g' j k))) := fun W O σ H S Q q =>
  tes_of (pe_chain ho ho' pe_s pe_s pe_s hm) (ha W O σ H S _ fun x H1 d1 f1 S1 p1 r1 => hb W O σ H1 S1 _ fun y H2 d2 f2 S2 p2 r2 => by
    have p1' : d1 = .int i := p1
    have p2' : d2 = .int j := p2
    subst p1' p2'
    cases r1
    cases r2
    refine ⟨i, j, rfl, rfl, g i j, rfl, ?_⟩
    cases hg : g i j with
    | false => exact q _ H2 _ (f1.trans f2) S2 (by rw [hg]; rfl) (.bl _)
    | true =>
      refine hc W O σ H2 S2 _ fun z H3 d3 f3 S3 p3 r3 => ?_
      have p3' : d3 = .int k := p3
      subst p3'
      cases r3
      exact ⟨j, k, rfl, rfl, q _ H3 _ (f1.trans (f2.trans f3)) S3 (by rw [hg]; rfl) (.bl _)⟩)
theorem et_val {P : Bool → Prop} (h : Eval X e es (BoolD P)) (he : ∀ whole, isTrue e X.env whole = (do let v ← whole; standAt e.pos; holding [v] (truthy v)) := by intro _; rfl) : EvalT X e es P := fun W O σ H S Q q =>
  tts_of (pt_val pe_s he) (h W O σ H S _ fun v H' d f S' ⟨k, ek, p⟩ r => by
    subst ek
    cases r
    exact ⟨k, rfl, q k H' f S' p⟩)
theorem et_is {k : Bool} (h : Eval X e es (Is (.bool k))) (he : ∀ whole, isTrue e X.env whole = (do let v ← whole; standAt e.pos; holding [v] (truthy v)) := by intro _; rfl) : EvalT X e es (IsB k) := et_val (h.weak boolD) he

/-! ### and, or, not, if -/
variable {rest : List Expr}
theorem et_w {P : Bool → Prop} (h : EvalW X e es P) : EvalT X e es P := fun W O σ H S Q q => tts_of pw_s.pt (h W O σ H S Q q)
theorem ew_and1 {P : Bool → Prop} (h : EvalT X a es P) : EvalW X (.BoolOp .And [a] pos) es P := fun W O σ H S Q q => tws_of (pw_and1 pt_s) (h W O σ H S Q q)
theorem ew_or1 {P : Bool → Prop} (h : EvalT X a es P) : EvalW X (.BoolOp .Or [a] pos) es P := fun W O σ H S Q q => tws_of (pw_or1 pt_s) (h W O σ H S Q q)
theorem ew_and {P P1 : Bool → Prop} (h1 : EvalT X a es P1) (h2 : P1 true → EvalW X (.BoolOp .And (b :: rest) pos) es P) (hf : P1 false → P false) : EvalW X (.BoolOp .And (a :: b :: rest) pos) es P := fun W O σ H S Q q =>
  tws_of (pw_and pt_s pw_s) (h1 W O σ H S _ fun k H1 f1 S1 p1 => by
    cases k with
    | true => exact iteT (h2 p1 W O σ H1 S1 Q fun b H2 f2 S2 p2 => q b H2 (f1.trans f2) S2 p2)
    | false => exact iteF (q false H1 f1 S1 (hf p1)))
theorem ew_or {P P1 : Bool → Prop} (h1 : EvalT X a es P1) (h2 : P1 false → EvalW X (.BoolOp .Or (b :: rest) pos) es P) (hf : P1 true → P true) : EvalW X (.BoolOp .Or (a :: b :: rest) pos) es P := fun W O σ H S Q q =>
  tws_of (pw_or pt_s pw_s) (h1 W O σ H S _ fun k H1 f1 S1 p1 => by
    cases k with
    | true => exact iteT (q true H1 f1 S1 (hf p1))
    | false => exact iteF (h2 p1 W O σ H1 S1 Q fun b H2 f2 S2 p2 => q b H2 (f1.trans f2) S2 p2))
theorem et_not {P P1 : Bool → Prop} (h1 : EvalT X a es P1) (hf : ∀ k, P1 k → P (!k)) : EvalT X (.UnaryOp .Not a pos) es P := fun W O σ H S Q q =>
  tts_of (pt_not pt_s) (h1 W O σ H S _ fun k H1 f1 S1 p1 => q (!k) H1 f1 S1 (hf k p1))
theorem et_notB {k : Bool} (h1 : EvalT X a es (IsB k)) : EvalT X (.UnaryOp .Not a pos) es (IsB (!k)) := et_not h1 (by rintro _ rfl; rfl)
theorem ev_one {op : BoolOp} (h : Eval X a es P) : Eval X (.BoolOp op [a] pos) es P := fun W O σ H S Q q => tes_of (pe_one pe_s) (h W O σ H S Q q)
theorem ev_and {k k2 : Bool} (h1 : Eval X a es (Is (.bool k))) (h2 : k = true → Eval X (.BoolOp .And (b :: rest) pos) es (Is (.bool k2))) : Eval X (.BoolOp .And (a :: b :: rest) pos) es (Is (.bool (k && k2))) := fun W O σ H S Q q =>
  tes_of (pe_and pe_s pe_s) (h1 W O σ H S _ fun v H1 d f1 S1 p1 r => by
    have p1' : d = .bool k := p1
    subst p1'
    cases r
    refine ⟨k, rfl, ?_⟩
    cases k with
    | true => exact iteT (h2 rfl W O σ H1 S1 Q fun b H2 d f2 S2 p2 r2 => q b H2 d (f1.trans f2) S2 (by rw [Bool.true_and]; exact p2) r2)
    | false => exact iteF (q _ H1 _ f1 S1 (by rw [Bool.false_and]; rfl) (.bl _)))
theorem ev_or {k k2 : Bool} (h1 : Eval X a es (Is (.bool k))) (h2 : k = false → Eval X (.BoolOp .Or (b :: rest) pos) es (Is (.bool k2))) : Eval X (.BoolOp .Or (a :: b :: rest) pos) es (Is (.bool (k || k2))) := fun W O σ H S Q q =>
  tes_of (pe_or pe_s pe_s) (h1 W O σ H S _ fun v H1 d f1 S1 p1 r => by
    have p1' : d = .bool k := p1
    subst p1'
    cases r
    refine ⟨k, rfl, ?_⟩
    cases k with
    | true => exact iteT (q _ H1 _ f1 S1 (by rw [Bool.true_or]; rfl) (.bl _))
    | false => exact iteF (h2 rfl W O σ H1 S1 Q fun b H2 d f2 S2 p2 r2 => q b H2 d (f1.trans f2) S2 (by rw [Bool.false_or]; exact p2) r2))
theorem ev_not {k : Bool} (h1 : Eval X a es (Is (.bool k))) : Eval X (.UnaryOp .Not a pos) es (Is (.bool (!k))) := fun W O σ H S Q q =>
  tes_of (pe_not pe_s) (h1 W O σ H S _ fun v H1 d f1 S1 p1 r => by
    have p1' : d = .bool k := p1
    subst p1'
    cases r
    exact ⟨k, rfl, q _ H1 _ f1 S1 rfl (.bl _)⟩)
theorem ev_if {Pc : Bool → Prop} (hc : EvalT X c es Pc) (h1 : Pc true → Eval X a es P) (h2 : Pc false → Eval X b es P) : Eval X (.IfExp c a b pos) es P := fun W O σ H S Q q =>
  tes_of (pe_ifExp pt_s pe_s pe_s) (hc W O σ H S _ fun k H1 f1 S1 p1 => by
    cases k with
    | true => exact iteT (h1 p1 W O σ H1 S1 Q fun b H2 d f2 S2 p2 r2 => q b H2 d (f1.trans f2) S2 p2 r2)
    | false => exact iteF (h2 p1 W O σ H1 S1 Q fun b H2 d f2 S2 p2 r2 => q b H2 d (f1.trans f2) S2 p2 r2))

/-! ### arguments, displays -/
theorem ea_nil : EvalA X [] es (IsL []) := fun W O σ H S Q q => tas_of pa_nil (q [] H [] (Fx.refl W H) S rfl .nil)
theorem ea_consP {as : List Expr} {PA PB : List PyData → Prop} (h : Eval X e es Pa) (hr : EvalA X as es PA) (hp : ∀ d ds, Pa d → PA ds → PB (d :: ds)) (hs : starEach (e :: as) X.env = (false, eval e X.env) :: starEach as X.env := by rfl) : EvalA X (e :: as) es PB := fun W O σ H S Q q =>
  tas_of (pa_cons pe_s pa_s hs) (h W O σ H S _ fun v H1 d f1 S1 p1 r1 => hr W O σ H1 S1 _ fun vs H2 ds f2 S2 p2 r2 => q (v :: vs) H2 (d :: ds) (f1.trans f2) S2 (hp d ds p1 p2) (.cons (r1.mono (S1.fx_hid f2)) r2))
theorem ea_cons {as : List Expr} {d : PyData} {ds : List PyData} (h : Eval X e es (Is d)) (hr : EvalA X as es (IsL ds)) (hs : starEach (e :: as) X.env = (false, eval e X.env) :: starEach as X.env := by rfl) : EvalA X (e :: as) es (IsL (d :: ds)) :=
  ea_consP h hr (by rintro _ _ rfl rfl; rfl) hs
theorem ev_tupP {as : List Expr} {x1 : Nat} {PA : List PyData → Prop} (h : EvalA X as es PA) (hp : ∀ ds, PA ds → ds.length ≤ 1000 ∧ P (.tuple ds)) : Eval X (.Tuple as x1 pos) es P := fun W O σ H S Q q =>
  tes_of (pe_tup pa_s) (h W O σ H S _ fun vs H1 ds f1 S1 p1 r1 => ⟨by rw [r1.length]; exact Nat.le_trans (hp ds p1).1 (by decide), fun p hp' =>
    have sm : Same H1 (upd H1 p (.tup vs)) := same_new hp'
    q _ _ _ (f1.trans (Same.fx sm)) (S1.same sm) (hp ds p1).2 (.tup (SqT.of (hid_some.mpr ⟨S1.newO hp', upd_same⟩)) (r1.mono (hid_ext O sm)))⟩)
theorem ev_tup {as : List Expr} {x1 : Nat} {ds : List PyData} (h : EvalA X as es (IsL ds)) (hl : Nat.ble ds.length 1000 = true := by rfl) : Eval X (.Tuple as x1 pos) es (Is (.tuple ds)) := ev_tupP h (by rintro _ rfl; exact ⟨Nat.le_of_ble_eq_true hl, rfl⟩)
theorem el_lstP {as : List Expr} {PA : List PyData → Prop} (h : EvalA X as es PA) (hl : ∀ ds, PA ds → ds.length ≤ 1000) : EvalN X (.List as pos) es PA := fun W O σ H S Q q =>
  tes_of (pe_lst pa_s) (h W O σ H S _ fun vs H1 ds f1 S1 p1 r1 => ⟨by rw [r1.length]; exact Nat.le_trans (hl ds p1) (by decide), fun p hp =>
    have sm : Same H1 (upd H1 p (.lst vs)) := same_new hp
    have hn : H p = none := by
      cases z : H p with
      | none => rfl
      | some o =>
        by_cases hs : W.sa = some p
        · exact absurd hp (S1.occ p (S1.spr p hs).1)
        · have := f1 p o hs z
          rw [hp] at this
          cases this
    q p vs _ ds (f1.trans (Same.fx sm)) (S1.same sm) p1 hn upd_same (r1.mono fun b o e => by
      obtain ⟨e1, e2⟩ := hid_some.mp e
      refine hid_some.mpr ⟨fun z => ?_, sm b o e2⟩
      rcases List.mem_cons.mp z with z | z
      · rw [z, hp] at e2
        cases e2
      · exact e1 z)⟩)
theorem el_lst {as : List Expr} {ds : List PyData} (h : EvalA X as es (IsL ds)) (hl : Nat.ble ds.length 1000 = true := by rfl) : EvalN X (.List as pos) es (IsL ds) := el_lstP h (by rintro _ rfl; exact Nat.le_of_ble_eq_true hl)
end
end Ab

set_option maxHeartbeats 4000000
/-! What is walked: lists and tuples alike, zip and enumerate over both. -/
namespace Ab
open PySem PySem.Spec PyProof.Rows L2

/-- a tuple (true) or a list at a -/
def Sq (K : PySem.W.Frag) (t : Bool) (H : Hp) (a : Addr) (xs : List V) : Prop := match t with
  | true => SqT K H a xs
  | false => SqL K H a xs
def SIter (t : Bool) (h : Heap) (it a : Addr) (i : Nat) : Prop := match t with
  | true => h.IsTupleIter it a i
  | false => h.IsListIter it a i
def SIs (t : Bool) (h : Heap) (a : Addr) (items : Array Value) : Prop := match t with
  | true => h.IsTuple a items
  | false => h.IsList a items
def SObj (t : Bool) (a : Addr) : Obj := match t with
  | true => { cls := .type "tuple_iterator", data := .fields #[.ref a, .int 0 0] }
  | false => { cls := .type "list_iterator", data := .fields #[.ref a, .int 0 0] }
section
variable {X : Cx} {pins : List (Addr × Obj)} {σ : L2.St} {H : Hp} {s : Shared}
theorem sq_vals {t : Bool} {a : Addr} {xs : List V} (I : Inv X pins σ H s) (h : Sq X.K t H a xs) : ∃ its : List Value, Vals xs its ∧ SIs t s.heap a its.toArray ∧ a < s.heap.objs.size := by
  cases t with
  | true =>
    obtain ⟨its, r, p, _⟩ := I.tuple h
    exact ⟨its, r, p, p.lt⟩
  | false =>
    obtain ⟨its, r, p, _⟩ := I.list h
    exact ⟨its, r, p.isList, p.lt⟩
theorem sq_inj {t : Bool} {a : Addr} {xs ys : List V} (I : Inv X pins σ H s) (h : Sq X.K t H a xs) (h' : Sq X.K t H a ys) : xs = ys := by
  cases t with
  | true => exact I.tuple_inj h h'
  | false => exact I.list_inj h h'
theorem draws_sq {prog : Program} {w : World} {A : Around} (hh : A.handled = none) (t : Bool) (it a : Addr) (hne : a ≠ it) (items : Array Value) :
    Draws prog w A it [it, a] items.size (fun i v => items[i]? = some v) (fun i h => SIter t h it a i ∧ SIs t h a items) := by
  cases t with
  | true => exact Draws.tuple hh it a hne items
  | false => exact Draws.list hh it a hne items
theorem begins_sq (t : Bool) (a : Addr) (items : Array Value) : Begins (.ref a) (SObj t a) fun h => SIs t h a items := by
  cases t with
  | true => exact begins_tuple a items
  | false => exact begins_list a items
theorem siter_new {t : Bool} {h : Heap} {it a : Addr} (e : h.get? it = some (SObj t a)) : SIter t h it a 0 := by
  cases t with
  | true => exact ⟨_, e, rfl, rfl⟩
  | false => exact ⟨_, e, rfl, rfl⟩
theorem siter_at {t : Bool} {h h' : Heap} {it a : Addr} {i : Nat} (x : SIter t h it a i) (k : ∀ o, h.get? it = some o → h'.get? it = some o) : SIter t h' it a i := by
  cases t with
  | true => exact Heap.IsTupleIter.at x k
  | false => exact Heap.IsListIter.at x k
theorem siter_obj {t : Bool} {h : Heap} {it a : Addr} {i : Nat} (x : SIter t h it a i) : ∃ o, h.get? it = some o ∧ ∀ v, o.data ≠ .cell v := by
  cases t with
  | true =>
    obtain ⟨o, e, c, d⟩ := x
    exact ⟨o, e, fun v z => by rw [d] at z; cases z⟩
  | false =>
    obtain ⟨o, e, c, d⟩ := x
    exact ⟨o, e, fun v z => by rw [d] at z; cases z⟩

/-! ### zip -/
def ItZ (K : PySem.W.Frag) (t1 t2 : Bool) (a b : Addr) : It :=
  ⟨fun i H => ∃ (xs ys : List V) (x y : V), Sq K t1 H a xs ∧ Sq K t2 H b ys ∧ xs[i]? = some x ∧ ys[i]? = some y,
    fun i H v H' => ∃ T x y, v = .ref T ∧ H T = none ∧ H' = upd H T (.tup [x, y]) ∧ (∀ xs, Sq K t1 H a xs → xs[i]? = some x) ∧ ∀ ys, Sq K t2 H b ys → ys[i]? = some y,
    fun i H => ∃ xs ys : List V, Sq K t1 H a xs ∧ Sq K t2 H b ys ∧ i = min xs.length ys.length⟩
theorem turn_zip2 {P : Program} {w : World} {K : PySem.W.Frag} {elts : List Expr} {kk : Nat} {tpos : Pos} {t1 t2 : Bool} {a b z TI TO i1 i2 : Addr} (D : ZipSep2 z TI TO i1 i2 [i1, a] [i2, b]) (na : a ≠ i1) (nb : b ≠ i2) :
    Turn P w K (.Tuple elts kk tpos) (ItZ K t1 t2 a b) [z, TI, TO, i1, i2] z (fun i h => IsZip h z TI TO .none ∧ IsTupOf2 h TI (.ref i1) (.ref i2) ∧ (∃ x y, IsTupOf2 h TO x y) ∧ SIter t1 h i1 a i ∧ SIter t2 h i2 b i) where
  mem := by simp
  obj := fun i h st c hc => by
    obtain ⟨hz, hTI, ⟨x, y, hTO⟩, h1, h2⟩ := st
    have e' : c = z ∨ c = TI ∨ c = TO ∨ c = i1 ∨ c = i2 := by simpa using hc
    rcases e' with q | q | q | q | q
    · rw [q]; exact ⟨_, hz, fun v q => nomatch q⟩
    · rw [q]; exact ⟨_, hTI, fun v q => nomatch q⟩
    · rw [q]; exact ⟨_, hTO, fun v q => nomatch q⟩
    · rw [q]; exact siter_obj h1
    · rw [q]; exact siter_obj h2
  keep := fun i h h' st k => by
    obtain ⟨hz, hTI, ⟨x, y, hTO⟩, h1, h2⟩ := st
    exact ⟨k z (by simp) _ hz, k TI (by simp) _ hTI, ⟨x, y, k TO (by simp) _ hTO⟩, siter_at h1 fun o q => k i1 (by simp) o q, siter_at h2 fun o q => k i2 (by simp) o q⟩
  item := by
    intro X hP hw hK hc i pins s σ H E I hf st hg
    subst hP hw hK
    obtain ⟨hz, hTI, hTO, h1, h2⟩ := st
    obtain ⟨xs, ys, x, y, hqx, hqy, hx, hy⟩ := hg
    obtain ⟨its, rv, p, la⟩ := sq_vals I hqx
    obtain ⟨its2, rv2, p2, lb⟩ := sq_vals I hqy
    have hh : X.A.in1.handled = none := I.ok.hd hc
    have lx : i < its.toArray.size := by
      have := (List.getElem?_eq_some_iff.mp hx).1
      rw [rv.length] at this
      simpa using this
    have ly : i < its2.toArray.size := by
      have := (List.getElem?_eq_some_iff.mp hy).1
      rw [rv2.length] at this
      simpa using this
    have G := GoesN.zip2 (prog := X.prog) (w := X.w) (A := X.A) (elts := elts) (x1 := kk) (pos := tpos) D (draws_sq hh t1 i1 a na its.toArray) (draws_sq hh t2 i2 b nb its2.toArray)
    refine G.goes i s (fun v s2 => ∃ x H', Inv X pins σ H' s2 ∧ RelV x v ∧ (ItZ X.K t1 t2 a b).yld i H x H' ∧ _ ∧ ∀ b ∈ [z, TI, TO, i1, i2], H' b = none) E (by omega) ⟨hz, hTI, hTO, ⟨h1, p⟩, ⟨h2, p2⟩⟩ fun v h' tk hY st' hk _ => ?_
    obtain ⟨T, u1, u2, ev, hn, hx1, hy1, hT⟩ := hY
    obtain ⟨z', TI', TO', ⟨n1, _⟩, ⟨n2, _⟩⟩ := st'
    subst ev
    obtain ⟨w1, hw1, r1⟩ := rv.get hx
    obtain ⟨w2, hw2, r2⟩ := rv2.get hy
    have e1 : w1 = u1 := by
      have : its.toArray[i]? = some u1 := hx1
      rw [List.getElem?_toArray, hw1] at this
      exact Option.some.inj this
    have e2 : w2 = u2 := by
      have : its2.toArray[i]? = some u2 := hy1
      rw [List.getElem?_toArray, hw2] at this
      exact Option.some.inj this
    subst e1 e2
    have new : ObjOk X.prog X.w (upd H T (.tup [x, y])) h' T (.tup [x, y]) := ⟨by show 2 ≤ sizeLine; decide, [w1, w2], .cons r1 (.cons r2 .nil), hT⟩
    have I1 : Inv X pins σ (upd H T (.tup [x, y])) { s with heap := h', toks := tk } :=
      I.turnedNew (t' := tk) (ch := [z, TI, TO, i1, i2]) (fun c o hb q => hk c o (fun q' => hb (by
        have e' : c = z ∨ c = TO ∨ c = i1 ∨ c = i2 := by simpa using q'
        rcases e' with q | q | q | q <;> simp [q])) q) hf hn new
    refine ⟨.ref T, _, I1, rfl, ⟨T, x, y, rfl, I.hok.fresh hn, rfl, fun l hl => by rw [sq_inj I hl hqx]; exact hx, fun l hl => by rw [sq_inj I hl hqy]; exact hy⟩, ⟨z', TI', TO', n1, n2⟩, fun c hcm => ?_⟩
    have hlt : c < s.heap.objs.size := by
      obtain ⟨xo, yo, hTO⟩ := hTO
      have e' : c = z ∨ c = TI ∨ c = TO ∨ c = i1 ∨ c = i2 := by simpa using hcm
      rcases e' with q | q | q | q | q
      · rw [q]; exact Heap.lt_size hz
      · rw [q]; exact Heap.lt_size hTI
      · rw [q]; exact Heap.lt_size hTO
      · rw [q]; obtain ⟨_, e1, _⟩ := siter_obj h1; exact Heap.lt_size e1
      · rw [q]; obtain ⟨_, e1, _⟩ := siter_obj h2; exact Heap.lt_size e1
    rw [upd_ne (Nat.ne_of_lt (Nat.lt_of_lt_of_le hlt hn))]
    exact (hf c hcm).1
  done := by
    intro X hP hw hK hc i pins s σ H E I hf st hg
    subst hP hw hK
    obtain ⟨hz, hTI, hTO, h1, h2⟩ := st
    obtain ⟨xs, ys, hqx, hqy, hend⟩ := hg
    obtain ⟨its, rv, p, la⟩ := sq_vals I hqx
    obtain ⟨its2, rv2, p2, lb⟩ := sq_vals I hqy
    have hh : X.A.in1.handled = none := I.ok.hd hc
    have G := GoesN.zip2 (prog := X.prog) (w := X.w) (A := X.A) (elts := elts) (x1 := kk) (pos := tpos) D (draws_sq hh t1 i1 a na its.toArray) (draws_sq hh t2 i2 b nb its2.toArray)
    have en : i = min its.toArray.size its2.toArray.size := by
      rw [hend, List.size_toArray, List.size_toArray, rv.length, rv2.length]
    subst en
    exact G.stops s (fun s1 => Inv X pins σ H s1) E ⟨hz, hTI, hTO, ⟨h1, p⟩, ⟨h2, p2⟩⟩ fun h' tk hk _ => I.turnedL (t' := tk) (ch := [z, TI, TO, i1, i2]) (fun c o hb q => hk c o (fun q' => hb (by
        have e' : c = z ∨ c = TO ∨ c = i1 ∨ c = i2 := by simpa using q'
        rcases e' with q | q | q | q <;> simp [q])) q) hf
  self := fun A i s Q E st h => wpAny_pyIter_zip st.1 h
theorem nin2 {x n a : Nat} (h1 : x ≠ n) (h2 : x ≠ a) : x ∉ [n, a] := by
  intro h
  rcases List.mem_cons.mp h with h | h
  · exact h1 h
  · exact h2 (List.mem_singleton.mp h)
theorem apart_n {n a b : Nat} (ha : a < n) (hb : b < n) : n + 2 ≠ n + 4 ∧ n + 3 ≠ n + 4 ∧ n + 2 ≠ n + 3 ∧ n + 2 ≠ n ∧ n + 4 ∉ [n, a] ∧ n + 3 ∉ [n, a] ∧ n + 2 ≠ n + 1 ∧ n + 4 ∉ [n + 1, b] ∧ n + 3 ∉ [n + 1, b] ∧ n ∉ [n + 1, b] ∧ n + 1 ∉ [n, a] :=
  ⟨by omega, by omega, by omega, by omega, nin2 (by omega) (by omega), nin2 (by omega) (by omega), by omega, nin2 (by omega) (by omega), nin2 (by omega) (by omega), nin2 (by omega) (by omega), nin2 (by omega) (by omega)⟩
theorem zip_apart (n a b : Addr) (ha : a < n) (hb : b < n) : ZipSep2 (n + 4) (n + 2) (n + 3) n (n + 1) [n, a] [n + 1, b] := by
  obtain ⟨h1, h2, h3, h4, h5, h6, h7, h8, h9, h10, h11⟩ := apart_n (n := n) (a := a) (b := b) ha hb
  exact ⟨h1, h2, h3, h4, List.mem_cons_self, h5, h6, h7, List.mem_cons_self, h8, h9, h10, h11⟩
def iZ2 (K : PySem.W.Frag) (ta : TA) : TI := fun σ H R => ta σ H fun vs H1 => ∃ t1 t2 a b xs ys, vs = [.ref a, .ref b] ∧ Sq K t1 H1 a xs ∧ Sq K t2 H1 b ys ∧ R (ItZ K t1 t2 a b) H1
theorem pi_zip2 {e e2 : Expr} {ta : TA} {p pos tpos : Pos} {elts : List Expr} {kk : Nat} (hg : Gl X "zip") (hm : X.mg "zip" = none) (ha : PA X [e, e2] ta)
    (hs : starEach [e, e2] X.env = (false, eval e X.env) :: starEach [e2] X.env := by rfl) (hpl : (backTo pos (starEach [e2] X.env)).any (·.1) = false := by rfl) :
    PI X (.Tuple elts kk tpos) (.Call (.Name "zip" p) [e, e2] [] pos) (iZ2 X.K ta) := by
  refine ⟨fun pins s σ H R I h => ?_⟩
  refine Call_ (ld_blt I hg hm PyProof.Rows.boot_zip (PyProof.Rows.callWith_type1 (thn (ha.run pos pins s σ H _ I h) fun us s1 ⟨vs, H1, I1, r1, q1⟩ => ?_) hs hpl))
  obtain ⟨t1, t2, a, b, xs, ys, ex, hqx, hqy, q⟩ := q1
  subst ex
  obtain ⟨u1, u2, rfl, ra, rb⟩ := r1.two
  cases ra
  cases rb
  obtain ⟨its, rv, p1, la⟩ := sq_vals I1 hqx
  obtain ⟨its2, rv2, p2, lb⟩ := sq_vals I1 hqy
  refine zip_begins2 (begins_sq t1 a its.toArray) (begins_sq t2 b its2.toArray) p1 p2 fun h' hz hTI hTO h1 h2 hsz hk => wpAny_pyIter_zip hz ?_
  have I2 : Inv X pins σ H1 { s1 with heap := h' } := I1.kept (t' := s1.toks) hk
  refine ⟨s1.heap.objs.size + 4, [s1.heap.objs.size + 4, s1.heap.objs.size + 2, s1.heap.objs.size + 3, s1.heap.objs.size, s1.heap.objs.size + 1], _, _, H1, rfl, I2,
    turn_zip2 (zip_apart _ a b la lb) (Nat.ne_of_lt la) (Nat.ne_of_lt (Nat.lt_succ_of_lt lb)), ⟨hz, hTI, ⟨_, _, hTO⟩, siter_new h1, siter_new h2⟩, fun c hcm => ?_, q⟩
  have e' : c = s1.heap.objs.size + 4 ∨ c = s1.heap.objs.size + 2 ∨ c = s1.heap.objs.size + 3 ∨ c = s1.heap.objs.size ∨ c = s1.heap.objs.size + 1 := by simpa using hcm
  have hle : s1.heap.objs.size ≤ c := by
    rcases e' with z | z | z | z | z
    · rw [z]; exact Nat.le_add_right _ _
    · rw [z]; exact Nat.le_add_right _ _
    · rw [z]; exact Nat.le_add_right _ _
    · rw [z]; exact Nat.le_refl _
    · rw [z]; exact Nat.le_add_right _ _
  exact I1.fpOk hle (I1.hok.fresh hle)
end

/-! ### enumerate -/
theorem meets_enum_newB {a : Addr} {o : Obj} {H : Heap → Prop} (B : Begins (.ref a) o H) :
    Meets (Builtin.«enumerate.__new__» ⟨[.type "enumerate", .ref a], []⟩) (fun _ R s => H s.heap ∧
      R (.ok (.ret (.ref (s.heap.push o).objs.size))) { s with heap := (s.heap.push o).push { cls := .type "enumerate", data := .fields #[.none, .bool false, .ref s.heap.objs.size, rawInt 0, .none, .none] } }) :=
  .of_wp fun prog w A R s h => by
    obtain ⟨hp, g, d, tk, os⟩ := s
    obtain ⟨h1, h⟩ := h
    have hsub := sub_enumerate
    have q1 : ∀ {A' : Around} {E : Value → Shared → Prop} {Q : Value → Shared → Prop}, Q (.ref hp.objs.size) ⟨hp.push o, g, d, tk, os⟩ → wpAny (model prog w) A' (pyIter (.ref a)) Q E ⟨hp, g, d, tk, os⟩ :=
      fun q => B.iter prog w _ _ ⟨hp, g, d, tk, os⟩ _ h1 q
    wp_walk using q1
    refine wpAny_stack_any fun st => wpAny_pure ?_
    split
    · rename_i c _ _ _ _ _
      cases (c == Value.type "enumerate")
      · wp_walk using q1
        exact ⟨_, rfl, h⟩
      · wp_walk using q1
        exact ⟨_, rfl, h⟩
    · wp_walk using q1
      exact ⟨_, rfl, h⟩
theorem enum_begin1 {prog : Program} {w : World} {A : Around} {E : Value → Shared → Prop} {s : Shared} {a : Addr} {o : Obj} {H : Heap → Prop} {Q : Value → Shared → Prop} (B : Begins (.ref a) o H) (h1 : H s.heap)
    (h : ∀ h', IsEnum h' (s.heap.objs.size + 1) s.heap.objs.size 0 .none → h'.get? s.heap.objs.size = some o → h'.objs.size = s.heap.objs.size + 2 →
      (∀ b o, s.heap.get? b = some o → h'.get? b = some o) → Q (.ref (s.heap.objs.size + 1)) { s with heap := h' }) :
    wpAny (model prog w) A (call (.type "enumerate") [.ref a]) Q E s := by
  refine callType_new F.called_enumerate (by decide) (F.typeCall_enumerate_1 _) (F.newCall_enumerate_1 _) (fun obj => F.args_object_init_2 obj _) F.entry_enumerate_new (meets_enum_newB B) ⟨h1, ?_⟩
  have hz : (s.heap.push o).objs.size = s.heap.objs.size + 1 := Heap.size_push ..
  show _ ∧ _
  rw [hz]
  have he : IsEnum ((s.heap.push o).push { cls := .type "enumerate", data := .fields #[.none, .bool false, .ref s.heap.objs.size, rawInt 0, .none, .none] }) (s.heap.objs.size + 1) s.heap.objs.size 0 .none := by
    have q := Heap.get?_push_size (s.heap.push o) (o := { cls := .type "enumerate", data := .fields #[.none, .bool false, .ref s.heap.objs.size, rawInt 0, .none, .none] }) rfl
    rw [hz] at q
    exact q
  exact ⟨⟨_, he, rfl⟩, h _ he (Heap.get?_push_of_some _ (Heap.get?_push_size _ B.free)) (by rw [Heap.size_push, hz]) fun b o x => Heap.get?_push_of_some _ (Heap.get?_push_of_some _ x)⟩
section
variable {X : Cx} {pins : List (Addr × Obj)} {σ : L2.St} {H : Hp} {s : Shared}
def ItE2 (K : PySem.W.Frag) (t : Bool) (a : Addr) : It :=
  ⟨fun i H => ∃ (xs : List V) (x : V), Sq K t H a xs ∧ xs[i]? = some x,
    fun i H v H' => ∃ T x, v = .ref T ∧ H T = none ∧ H' = upd H T (.tup [.int (i : Int), x]) ∧ (∀ xs, Sq K t H a xs → xs[i]? = some x),
    fun i H => ∃ xs : List V, Sq K t H a xs ∧ i = xs.length⟩
theorem turn_enum2 {P : Program} {w : World} {K : PySem.W.Frag} {elts : List Expr} {kk : Nat} {tpos : Pos} {t : Bool} {a e it : Addr} (hei : e ≠ it) (na : a ≠ it) (nae : e ≠ a) :
    Turn P w K (.Tuple elts kk tpos) (ItE2 K t a) [e, it] e (fun i h => (∃ old, IsEnum h e it (0 + (i : Int)) old) ∧ SIter t h it a i) where
  mem := by simp
  obj := fun i h st c hc => by
    obtain ⟨⟨old, he⟩, h1⟩ := st
    have e' : c = e ∨ c = it := by simpa using hc
    rcases e' with q | q
    · rw [q]; exact ⟨_, he, fun v q => nomatch q⟩
    · rw [q]; exact siter_obj h1
  keep := fun i h h' st k => by
    obtain ⟨⟨old, he⟩, h1⟩ := st
    exact ⟨⟨old, k e (by simp) _ he⟩, siter_at h1 fun o q => k it (by simp) o q⟩
  item := by
    intro X hP hw hK hc i pins s σ H E I hf st hg
    subst hP hw hK
    obtain ⟨he, h1⟩ := st
    obtain ⟨xs, x, hqx, hx⟩ := hg
    obtain ⟨its, rv, p, la⟩ := sq_vals I hqx
    have hh : X.A.in1.handled = none := I.ok.hd hc
    have lx : i < its.toArray.size := by
      have := (List.getElem?_eq_some_iff.mp hx).1
      rw [rv.length] at this
      simpa using this
    have G := GoesN.enumFrom (prog := X.prog) (w := X.w) (A := X.A) (elts := elts) (x1 := kk) (pos := tpos) 0 (draws_sq hh t it a na its.toArray) e hei (by
      intro h
      have h' : e = it ∨ e = a := by simpa using h
      rcases h' with h' | h'
      · exact hei h'
      · exact nae h') (by simp)
    refine G.goes i s (fun v s2 => ∃ x H', Inv X pins σ H' s2 ∧ RelV x v ∧ (ItE2 X.K t a).yld i H x H' ∧ _ ∧ ∀ b ∈ [e, it], H' b = none) E lx ⟨he, ⟨h1, p⟩⟩ fun v h' tk hY st' hk _ => ?_
    obtain ⟨T, tt, u1, ev, hn, hx1, hT⟩ := hY
    obtain ⟨he', ⟨n1, _⟩⟩ := st'
    subst ev
    obtain ⟨w1, hw1, r1⟩ := rv.get hx
    have e1 : w1 = u1 := by
      have : its.toArray[i]? = some u1 := hx1
      rw [List.getElem?_toArray, hw1] at this
      exact Option.some.inj this
    subst e1
    have new : ObjOk X.prog X.w (upd H T (.tup [.int (i : Int), x])) h' T (.tup [.int (i : Int), x]) := ⟨by show 2 ≤ sizeLine; decide, [.int (0 + (i : Int)) tt, w1], .cons ⟨tt, by rw [Int.zero_add]⟩ (.cons r1 .nil), hT⟩
    have I1 : Inv X pins σ (upd H T (.tup [.int (i : Int), x])) { s with heap := h', toks := tk } := I.turnedNew (t' := tk) (ch := [e, it]) (fun c o hb q => hk c o hb q) hf hn new
    refine ⟨.ref T, _, I1, rfl, ⟨T, x, rfl, I.hok.fresh hn, rfl, fun l hl => by rw [sq_inj I hl hqx]; exact hx⟩, ⟨he', n1⟩, fun c hcm => ?_⟩
    have hlt : c < s.heap.objs.size := by
      obtain ⟨old, he⟩ := he
      have e' : c = e ∨ c = it := by simpa using hcm
      rcases e' with q | q
      · rw [q]; exact Heap.lt_size he
      · rw [q]; obtain ⟨_, e1, _⟩ := siter_obj h1; exact Heap.lt_size e1
    rw [upd_ne (Nat.ne_of_lt (Nat.lt_of_lt_of_le hlt hn))]
    exact (hf c hcm).1
  done := by
    intro X hP hw hK hc i pins s σ H E I hf st hg
    subst hP hw hK
    obtain ⟨he, h1⟩ := st
    obtain ⟨xs, hqx, hend⟩ := hg
    obtain ⟨its, rv, p, la⟩ := sq_vals I hqx
    have hh : X.A.in1.handled = none := I.ok.hd hc
    have G := GoesN.enumFrom (prog := X.prog) (w := X.w) (A := X.A) (elts := elts) (x1 := kk) (pos := tpos) 0 (draws_sq hh t it a na its.toArray) e hei (by
      intro h
      have h' : e = it ∨ e = a := by simpa using h
      rcases h' with h' | h'
      · exact hei h'
      · exact nae h') (by simp)
    have en : i = its.toArray.size := by rw [hend, List.size_toArray, rv.length]
    subst en
    exact G.stops s (fun s1 => Inv X pins σ H s1) E ⟨he, ⟨h1, p⟩⟩ fun h' tk hk _ => I.turnedL (t' := tk) (ch := [e, it]) (fun c o hb q => hk c o hb q) hf
  self := fun A i s Q E st h => by
    obtain ⟨⟨old, he⟩, _⟩ := st
    exact wpAny_pyIter_enum he h
def iE2 (K : PySem.W.Frag) (ta : TA) : TI := fun σ H R => ta σ H fun vs H1 => ∃ t a xs, vs = [.ref a] ∧ Sq K t H1 a xs ∧ R (ItE2 K t a) H1
theorem pi_enum2 {e : Expr} {ta : TA} {p pos tpos : Pos} {elts : List Expr} {kk : Nat} (hg : Gl X "enumerate") (hm : X.mg "enumerate" = none) (ha : PA X [e] ta) (hs : starEach [e] X.env = [(false, eval e X.env)] := by rfl) :
    PI X (.Tuple elts kk tpos) (.Call (.Name "enumerate" p) [e] [] pos) (iE2 X.K ta) := by
  refine ⟨fun pins s σ H R I h => ?_⟩
  refine Call_ (ld_blt I hg hm boot_enumerate (PyProof.Rows.callWith_type1 (thn (ha.run pos pins s σ H _ I h) fun us s1 ⟨vs, H1, I1, r1, q1⟩ => ?_) hs rfl))
  obtain ⟨t, a, xs, ex, hqx, q⟩ := q1
  subst ex
  obtain ⟨u1, rfl, ra⟩ := r1.one
  cases ra
  obtain ⟨its, rv, p1, la⟩ := sq_vals I1 hqx
  refine enum_begin1 (begins_sq t a its.toArray) p1 fun h' he hit hsz hk => wpAny_pyIter_enum he ?_
  have I2 : Inv X pins σ H1 { s1 with heap := h' } := I1.kept (t' := s1.toks) hk
  refine ⟨s1.heap.objs.size + 1, [s1.heap.objs.size + 1, s1.heap.objs.size], _, _, H1, rfl, I2,
    turn_enum2 (t := t) (a := a) (Nat.ne_of_gt (Nat.lt_succ_self _)) (Nat.ne_of_lt la) (Nat.ne_of_gt (Nat.lt_succ_of_lt la)), ⟨⟨_, he⟩, siter_new hit⟩, fun c hcm => ?_, q⟩
  have e' : c = s1.heap.objs.size + 1 ∨ c = s1.heap.objs.size := by simpa using hcm
  have hle : s1.heap.objs.size ≤ c := by
    rcases e' with z | z
    · rw [z]; exact Nat.le_add_right _ _
    · rw [z]; exact Nat.le_refl _
  exact I1.fpOk hle (I1.hok.fresh hle)
end
end Ab

set_option maxHeartbeats 4000000
/-! Subscripts, slices, calls, comprehensions. -/
namespace Ab
open PySem PySem.Spec PyProof.Rows L2

theorem rpAll_at {K : PySem.W.Frag} {H : Hp} {vs : List V} {ds : List PyData} {i : Int} {d : PyData} (r : RpAll K H vs ds) (h : atI ds i = some d) : ∃ v, atI vs i = some v ∧ Rp K H v d := by
  unfold atI at h ⊢
  rw [r.length]
  cases q : ixN ds.length i with
  | none => rw [q] at h; cases h
  | some j =>
    rw [q] at h
    obtain ⟨v, e, r'⟩ := r.get (i := j) h
    exact ⟨v, e, r'⟩
theorem atI_of {α : Type} {xs : List α} {i : Nat} {x : α} (h : xs[i]? = some x) : atI xs (i : Int) = some x := atI_nat h
section
variable {X : Cx} {e a b c : Expr} {es : List Sl} {P Pa Pb : PyData → Prop} {pos : Pos} {K : PySem.W.Frag}

/-! ### subscripts -/
theorem opd_ixT {xs : List PyData} {i : Int} {d : PyData} (h : atI xs i = some d) : OpD K (rIxT K) (.tuple xs) (.int i) (Is d) := fun O x y H _ r1 r2 Q q => by
  cases r1 with
  | tup hs ra =>
    cases r2
    obtain ⟨v, e, r⟩ := rpAll_at ra h
    exact ⟨_, _, i, v, rfl, rfl, sqt_mono (hid_sub H O) hs, e, q _ H _ (Same.refl H) rfl r⟩
theorem opd_ixL {xs : List PyData} {i : Int} {d : PyData} (h : atI xs i = some d) : OpD K (rIxL K) (.list xs) (.int i) (Is d) := fun O x y H _ r1 r2 Q q => by
  cases r1 with
  | lst hs ra =>
    cases r2
    obtain ⟨v, e, r⟩ := rpAll_at ra h
    exact ⟨_, _, i, v, rfl, rfl, SqL.of (hid_some.mp hs).2, e, q _ H _ (Same.refl H) rfl r⟩
theorem ev_ix {r : R2} (hr : IxR X r) (ha : Eval X a es Pa) (hb : Eval X b es Pb) (hd : ∀ d1 d2, Pa d1 → Pb d2 → OpD X.K r d1 d2 P) (hs : PlainIx b) : Eval X (.Subscript a b pos) es P := fun W O σ H S Q q =>
  tes_of (pe_ix hr pe_s pe_s hs) (ha W O σ H S _ fun x H1 d1 f1 S1 p1 r1 => hb W O σ H1 S1 _ fun y H2 d2 f2 S2 p2 r2 =>
    hd d1 d2 p1 p2 O x y H2 S2.occ (r1.mono (S1.fx_hid f2)) r2 Q fun z H3 d f3 p r3 => q z H3 d (f1.trans (f2.trans (Same.fx f3))) (S2.same f3) p r3)
theorem ev_ixT {xs : List PyData} {i : Int} {d : PyData} (ha : Eval X a es (Is (.tuple xs))) (hb : Eval X b es (Is (.int i))) (h : atI xs i = some d) (hs : PlainIx b := by exact fun _ _ => rfl) : Eval X (.Subscript a b pos) es (Is d) :=
  ev_ix ix_tup ha hb (by rintro _ _ rfl rfl; exact opd_ixT h) hs
theorem ev_ixL {xs : List PyData} {i : Int} {d : PyData} (ha : Eval X a es (Is (.list xs))) (hb : Eval X b es (Is (.int i))) (h : atI xs i = some d) (hs : PlainIx b := by exact fun _ _ => rfl) : Eval X (.Subscript a b pos) es (Is d) :=
  ev_ix ix_list ha hb (by rintro _ _ rfl rfl; exact opd_ixL h) hs
theorem ev_ixTP {xs : List PyData} (ha : Eval X a es (Is (.tuple xs))) (hb : Eval X b es Pb) (h : ∀ d, Pb d → ∃ i, d = .int i ∧ ∃ e, atI xs i = some e ∧ P e) (hs : PlainIx b := by exact fun _ _ => rfl) : Eval X (.Subscript a b pos) es P :=
  ev_ix ix_tup ha hb (by
    rintro _ d2 rfl p
    obtain ⟨i, rfl, e, h1, h2⟩ := h d2 p
    exact (opd_ixT h1).weak fun d hd => by
      have : d = e := hd
      rw [this]
      exact h2) hs
/-- its own list, or the spring's neighbours: a name that is read alone -/
theorem own_name {i : Nat} {x : Str} {xs : List PyData} (he : es[i]? = some (.own xs)) (hN : X.N[i]? = some x) (hv : Vis X.env.scope x) (hd : (x == ("__debug__" : Str)) = false := by decide) (hcd : (x == ("__classdict__" : Str)) = false := by decide)
    {W : Vw} {O : List Addr} {σ : L2.St} {H : Hp} (S : StO X.K W O H σ es) {Q : VK} (q : ∀ a vs, a ∈ O → W.sa ≠ some a → H a = some (.lst vs) → RpAll X.K (hid H O) vs xs → Q (.ref a) H) : TEs X (.Name x pos) σ H Q := by
  obtain ⟨a, vs, e1, m, n, _, e2, r⟩ := S.slot i _ he
  exact tes_of (pe_var hN hv hd hcd) ⟨_, e1, q a vs m n e2 r⟩
theorem ev_ixO {i : Nat} {x : Str} {xs : List PyData} {j : Int} {d : PyData} {p : Pos} (he : es[i]? = some (.own xs)) (hN : X.N[i]? = some x) (hv : Vis X.env.scope x) (hb : Eval X b es (Is (.int j))) (h : atI xs j = some d) (hs : PlainIx b := by exact fun _ _ => rfl)
    (hd : (x == ("__debug__" : Str)) = false := by decide) (hcd : (x == ("__classdict__" : Str)) = false := by decide) : Eval X (.Subscript (.Name x p) b pos) es (Is d) := fun W O σ H S Q q =>
  tes_of (pe_ix ix_list pe_s pe_s hs) (own_name he hN hv hd hcd S fun a vs m n e r => hb W O σ H S _ fun y H2 d2 f2 S2 p2 r2 => by
    have p2' : d2 = .int j := p2
    subst p2'
    cases r2
    obtain ⟨v, e1, r1⟩ := rpAll_at r h
    exact ⟨a, vs, j, v, rfl, rfl, SqL.of (f2 a _ n e), e1, q _ H2 _ f2 S2 rfl (r1.mono (S.fx_hid f2))⟩)

/-! ### slices -/
theorem cutV_from (vs : List V) (n : Nat) : cutV vs (some (n : Int)) none = vs.drop n := by
  unfold cutV
  rw [HT.sIx_nat, HT.sIx_none]
  by_cases h : n ≤ vs.length
  · rw [Nat.min_eq_left h]
    exact List.take_of_length_le (by rw [List.length_drop]; omega)
  · rw [Nat.min_eq_right (by omega), List.drop_of_length_le (Nat.le_refl _), List.drop_of_length_le (by omega)]
    exact List.take_nil
theorem cutV_to (vs : List V) (n : Nat) : cutV vs none (some (n : Int)) = vs.take n := by
  unfold cutV
  rw [HT.sIx_nat, HT.sIx_none]
  show List.take (min n vs.length - 0) (vs.drop 0) = _
  rw [Nat.sub_zero, List.drop_zero]
  by_cases h : n ≤ vs.length
  · rw [Nat.min_eq_left h]
  · rw [Nat.min_eq_right (by omega), List.take_of_length_le (Nat.le_refl _), List.take_of_length_le (by omega)]
theorem new_of {W : Vw} {O : List Addr} {σ : L2.St} {H H1 : Hp} (S1 : StO X.K W O H1 σ es) (f : Fx W H H1) {p : Addr} (hp : H1 p = none) : H p = none := by
  cases z : H p with
  | none => rfl
  | some o =>
    by_cases hs : W.sa = some p
    · exact absurd hp (S1.occ p (S1.spr p hs).1)
    · have := f p o hs z
      rw [hp] at this
      cases this
theorem rp_hid_new {O : List Addr} {H : Hp} {p : Addr} {o : HO} (hp : H p = none) : Same (hid H O) (hid (upd H p o) (p :: O)) := fun b u e => by
  obtain ⟨e1, e2⟩ := hid_some.mp e
  refine hid_some.mpr ⟨fun z => ?_, same_new hp b u e2⟩
  rcases List.mem_cons.mp z with z | z
  · rw [z, hp] at e2
    cases e2
  · exact e1 z
theorem en_from {xs : List PyData} {n : Nat} {p2 : Pos} (ha : Eval X a es (Is (.list xs))) (hb : Eval X b es (Is (.int (n : Int)))) : EvalN X (.Subscript a (.Slice (some b) none none p2) pos) es (IsL (xs.drop n)) := fun W O σ H S Q q =>
  tes_of (pe_slice sl_list pe_s (po_some pe_s) po_none) (ha W O σ H S _ fun x H1 d1 f1 S1 p1 r1 => hb W O σ H1 S1 _ fun y H2 d2 f2 S2 p2 r2 => by
    have p1' : d1 = .list xs := p1
    have p2' : d2 = .int (n : Int) := p2
    subst p1' p2'
    cases r2
    have r1' := r1.mono (S1.fx_hid f2)
    cases r1' with
    | lst hs ra =>
      refine ⟨(n : Int), rfl, _, _, rfl, SqL.of (hid_some.mp hs).2, fun p hp => ?_⟩
      rw [cutV_from]
      exact q p _ _ _ (f1.trans (f2.trans (Same.fx (same_new hp)))) (S2.same (same_new hp)) rfl (new_of S2 (f1.trans f2) hp) upd_same ((ra.drop n).mono (rp_hid_new hp)))
/-- script[:n] -/
theorem en_scr {i : Nat} {x : Str} {ns : List Int} {n : Nat} {p p2 : Pos} (he : es[i]? = some (.scr ns)) (hN : X.N[i]? = some x) (hv : Vis X.env.scope x) (hb : Eval X b es (Is (.int (n : Int))))
    (hd : (x == ("__debug__" : Str)) = false := by decide) (hcd : (x == ("__classdict__" : Str)) = false := by decide) : EvalN X (.Subscript (.Name x p) (.Slice none (some b) none p2) pos) es (IsL ((ns.take n).map .int)) := fun W O σ H S Q q => by
  obtain ⟨a, e1, hs⟩ := S.slot i _ he
  refine tes_of (pe_slice sl_list (pe_var hN hv hd hcd) po_none (po_some pe_s)) ⟨_, e1, hb W O σ H S _ fun y H2 d2 f2 S2 p2 r2 => ?_⟩
  have p2' : d2 = .int (n : Int) := p2
  subst p2'
  cases r2
  have hs2 : SqL X.K H2 a (ns.map V.int) := by
    rcases hs with (h | ⟨o, h⟩) | h
    · exact .inl (.inl (hid_sub _ _ _ _ ((S.fx_hid f2) _ _ h)))
    · exact .inl (.inr ⟨o, hid_sub _ _ _ _ ((S.fx_hid f2) _ _ h)⟩)
    · exact .inr h
  refine ⟨(n : Int), rfl, a, _, rfl, hs2, fun p hp => ?_⟩
  rw [cutV_to, ← List.map_take]
  exact q p _ _ _ (f2.trans (Same.fx (same_new hp))) (S2.same (same_new hp)) rfl (new_of S2 f2 hp) upd_same (RpAll.ints _)
/-- script[i] -/
theorem ev_scrIx {i : Nat} {x : Str} {ns : List Int} {j : Int} {n : Int} {p : Pos} (he : es[i]? = some (.scr ns)) (hN : X.N[i]? = some x) (hv : Vis X.env.scope x) (hb : Eval X b es (Is (.int j))) (h : atI ns j = some n) (hs : PlainIx b := by exact fun _ _ => rfl)
    (hd : (x == ("__debug__" : Str)) = false := by decide) (hcd : (x == ("__classdict__" : Str)) = false := by decide) : Eval X (.Subscript (.Name x p) b pos) es (Is (.int n)) := fun W O σ H S Q q => by
  obtain ⟨a, e1, hs'⟩ := S.slot i _ he
  refine tes_of (pe_ix ix_list (pe_var hN hv hd hcd) pe_s hs) ⟨_, e1, hb W O σ H S _ fun y H2 d2 f2 S2 p2 r2 => ?_⟩
  have p2' : d2 = .int j := p2
  subst p2'
  cases r2
  have hs2 : SqL X.K H2 a (ns.map V.int) := by
    rcases hs' with (h | ⟨o, h⟩) | h
    · exact .inl (.inl (hid_sub _ _ _ _ ((S.fx_hid f2) _ _ h)))
    · exact .inl (.inr ⟨o, hid_sub _ _ _ _ ((S.fx_hid f2) _ _ h)⟩)
    · exact .inr h
  have h' : atI (ns.map V.int) j = some (.int n) := by
    unfold atI at h ⊢
    rw [List.length_map]
    cases z : ixN ns.length j with
    | none => rw [z] at h; cases h
    | some k =>
      rw [z] at h
      have h : ns[k]? = some n := h
      show (ns.map V.int)[k]? = _
      rw [List.getElem?_map, h]
      rfl
  exact ⟨a, _, j, _, rfl, rfl, hs2, h', q _ H2 _ f2 S2 rfl (.int n)⟩

/-! ### + and * of tuples and lists -/
theorem en_cat {xs ys : List PyData} (ha : Eval X a es (Is (.list xs))) (hb : Eval X b es (Is (.list ys))) (hl : xs.length + ys.length ≤ 1000) : EvalN X (.BinOp a .Add b pos) es (IsL (xs ++ ys)) := fun W O σ H S Q q =>
  tes_of (pe_op op_cat pe_s pe_s) (ha W O σ H S _ fun x H1 d1 f1 S1 p1 r1 => hb W O σ H1 S1 _ fun y H2 d2 f2 S2 p2 r2 => by
    have p1' : d1 = .list xs := p1
    have p2' : d2 = .list ys := p2
    subst p1' p2'
    have r1' := r1.mono (S1.fx_hid f2)
    cases r1' with
    | lst hs ra =>
      cases r2 with
      | lst hs2 ra2 =>
        refine ⟨_, _, _, _, rfl, rfl, (hid_some.mp hs).2, (hid_some.mp hs2).2, ?_, fun p hp => ?_⟩
        · rw [ra.length, ra2.length]
          exact Nat.le_trans hl (by decide)
        · exact q p _ _ _ (f1.trans (f2.trans (Same.fx (same_new hp)))) (S2.same (same_new hp)) rfl (new_of S2 (f1.trans f2) hp) upd_same ((ra.append ra2).mono (rp_hid_new hp)))
theorem en_rep {xs : List PyData} {n : Nat} (ha : Eval X a es (Is (.list xs))) (hb : Eval X b es (Is (.int (n : Int)))) (hl : xs.length ≤ 100) (hn : n ≤ 100) : EvalN X (.BinOp a .Mult b pos) es (IsL (List.replicate n xs).flatten) := fun W O σ H S Q q =>
  tes_of (pe_op op_rep pe_s pe_s) (ha W O σ H S _ fun x H1 d1 f1 S1 p1 r1 => hb W O σ H1 S1 _ fun y H2 d2 f2 S2 p2 r2 => by
    have p1' : d1 = .list xs := p1
    have p2' : d2 = .int (n : Int) := p2
    subst p1' p2'
    have r1' := r1.mono (S1.fx_hid f2)
    cases r2
    cases r1' with
    | lst hs ra =>
      refine ⟨_, (n : Int), _, rfl, rfl, (hid_some.mp hs).2, by omega, by omega, ?_, fun p hp => ?_⟩
      · rw [ra.length, Int.toNat_natCast]
        exact Nat.le_trans (Nat.mul_le_mul hl hn) (by decide)
      · rw [Int.toNat_natCast]
        exact q p _ _ _ (f1.trans (f2.trans (Same.fx (same_new hp)))) (S2.same (same_new hp)) rfl (new_of S2 (f1.trans f2) hp) upd_same ((ra.rep n).mono (rp_hid_new hp)))

/-! ### calls of defs -/
/-- what a def promises: data in, data out -/
def spP (K : PySem.W.Frag) (R : List PyData → (PyData → Prop) → Prop) : Sp := fun vs H Q _ => ∃ (O : List Addr) (ds : List PyData) (P : PyData → Prop), (∀ a ∈ O, H a ≠ none) ∧ RpAll K (hid H O) vs ds ∧ R ds P ∧
  ∀ v H' d, Same H H' → P d → Rp K (hid H' O) v d → Q v H'
/-- .. one that draws from the spring, its first argument -/
def spS (K : PySem.W.Frag) (R : List PyData → (PyData → Prop) → Prop) : Sp := fun vs H Q _ => ∃ (O : List Addr) (a : Addr) (us : List V) (ds : List PyData) (P : PyData → Prop), vs = .ref a :: us ∧ a ∈ O ∧ Spr H a ∧ (∀ a ∈ O, H a ≠ none) ∧ RpAll K (hid H O) us ds ∧ R ds P ∧
  ∀ v H' d, (∀ b o, b ≠ a → H b = some o → H' b = some o) → Spr H' a → P d → Rp K (hid H' O) v d → Q v H'
/-- a def of the text as it stands behind the top, with its promise -/
def Kn (P : Program) (w : World) (K : PySem.W.Frag) (mg : Str → Option Value) (base : Heap) (nm : Str) (k : Nat) (ps : List Str) (sp : Sp) : Prop :=
  ∃ (f : Addr) (fd : FuncData), mg nm = some (.ref f) ∧ PySem.W.keepIn K (.ref f) = true ∧ Binds K fd ps [] ∧ FnOk P w K mg base CX0 k f fd ps sp
theorem Kn.mono {P : Program} {w : World} {K : PySem.W.Frag} {mg : Str → Option Value} {base : Heap} {nm : Str} {j k : Nat} {ps : List Str} {sp : Sp} (F : Kn P w K mg base nm j ps sp) (h : j ≤ k) : Kn P w K mg base nm k ps sp := by
  obtain ⟨f, fd, h1, h2, h3, h4⟩ := F
  exact ⟨f, fd, h1, h2, h3, h4.mono h⟩
variable {nm : Str} {k : Nat} {ps : List Str} {R : List PyData → (PyData → Prop) → Prop} {p : Pos} {as : List Expr}
theorem ev_callP {PA : List PyData → Prop} (F : Kn X.prog X.w X.K X.mg X.base nm k ps (spP X.K R)) (hr : Room k X.A) (hg : Gl X nm) (ha : EvalA X (e :: as) es PA) (hR : ∀ ds, PA ds → ∃ P', R ds P' ∧ ∀ d, P' d → P d)
    (hdb : (nm == ("__debug__" : Str)) = false := by decide) (he : starEach (e :: as) X.env = (false, eval e X.env) :: starEach as X.env := by rfl) (hpl : (backTo pos (starEach as X.env)).any (·.1) = false := by rfl) : Eval X (.Call (.Name nm p) (e :: as) [] pos) es P := fun W O σ H S Q q => by
  obtain ⟨f, fd, h1, h2, h3, h4⟩ := F
  refine tes_of (pe_call (CX := CX0) (E := E0) h4 hr hg h1 h2 h3 .nil pass0 pa_s hdb he hpl) (ha W O σ H S _ fun vs H1 ds f1 S1 p1 r1 => ?_)
  obtain ⟨P', hP, w⟩ := hR ds p1
  rw [List.append_nil]
  exact ⟨O, ds, P', S1.occ, r1, hP, fun v H' d sm p r => q v H' d (f1.trans (Same.fx sm)) (S1.same sm) (w d p) r⟩
theorem ev_call {ds : List PyData} (F : Kn X.prog X.w X.K X.mg X.base nm k ps (spP X.K R)) (hr : Room k X.A) (hg : Gl X nm) (ha : EvalA X (e :: as) es (IsL ds)) (hR : R ds P)
    (hdb : (nm == ("__debug__" : Str)) = false := by decide) (he : starEach (e :: as) X.env = (false, eval e X.env) :: starEach as X.env := by rfl) (hpl : (backTo pos (starEach as X.env)).any (·.1) = false := by rfl) : Eval X (.Call (.Name nm p) (e :: as) [] pos) es P :=
  ev_callP F hr hg ha (by rintro _ rfl; exact ⟨P, hR, fun _ h => h⟩) hdb he hpl
/-- a call that draws from the spring -/
theorem ev_callSP {i : Nat} {x : Str} {px : Pos} {PA : List PyData → Prop} (F : Kn X.prog X.w X.K X.mg X.base nm k ps (spS X.K R)) (hr : Room k X.A) (hg : Gl X nm) (hi : es[i]? = some .spr) (hN : X.N[i]? = some x) (hv : Vis X.env.scope x) (ha : EvalA X as es PA) (hR : ∀ ds, PA ds → ∃ P', R ds P' ∧ ∀ d, P' d → P d)
    (hd : (x == ("__debug__" : Str)) = false := by decide) (hcd : (x == ("__classdict__" : Str)) = false := by decide) (hdb : (nm == ("__debug__" : Str)) = false := by decide) (he : starEach (.Name x px :: as) X.env = (false, eval (.Name x px) X.env) :: starEach as X.env := by rfl) (hpl : (backTo pos (starEach as X.env)).any (·.1) = false := by rfl) :
    Eval X (.Call (.Name nm p) (.Name x px :: as) [] pos) es P := fun W O σ H S Q q => by
  obtain ⟨f, fd, h1, h2, h3, h4⟩ := F
  obtain ⟨a, e1, e2⟩ := S.slot i _ hi
  refine tes_of (pe_call (CX := CX0) (E := E0) h4 hr hg h1 h2 h3 .nil pass0 (pa_cons (pe_var hN hv hd hcd) pa_s he) hdb he hpl) ⟨_, e1, ha W O σ H S _ fun vs H1 ds f1 S1 p1 r1 => ?_⟩
  obtain ⟨P', hP, w⟩ := hR ds p1
  rw [List.append_nil]
  refine ⟨O, a, vs, ds, P', rfl, (S1.spr a e2).1, (S1.spr a e2).2, S1.occ, r1, hP, fun v H' d sm sp p r => ?_⟩
  have f2 : Fx W H1 H' := fun b o n e => sm b o (fun z => n (by rw [e2, z])) e
  refine q v H' d (f1.trans f2) (S1.fx f2 fun a' ha' => ?_) (w d p) r
  have : a = a' := Option.some.inj (e2.symm.trans ha')
  rw [← this]
  exact sp
theorem ev_callS {i : Nat} {x : Str} {px : Pos} {ds : List PyData} (F : Kn X.prog X.w X.K X.mg X.base nm k ps (spS X.K R)) (hr : Room k X.A) (hg : Gl X nm) (hi : es[i]? = some .spr) (hN : X.N[i]? = some x) (hv : Vis X.env.scope x) (ha : EvalA X as es (IsL ds)) (hR : R ds P)
    (hd : (x == ("__debug__" : Str)) = false := by decide) (hcd : (x == ("__classdict__" : Str)) = false := by decide) (hdb : (nm == ("__debug__" : Str)) = false := by decide) (he : starEach (.Name x px :: as) X.env = (false, eval (.Name x px) X.env) :: starEach as X.env := by rfl) (hpl : (backTo pos (starEach as X.env)).any (·.1) = false := by rfl) :
    Eval X (.Call (.Name nm p) (.Name x px :: as) [] pos) es P :=
  ev_callSP F hr hg hi hN hv ha (by rintro _ rfl; exact ⟨P, hR, fun _ h => h⟩) hd hcd hdb he hpl

/-! ### calls of built-ins -/
theorem ev_callB {id : String} {r : List V → Hp → VK → Prop} {PA : List PyData → Prop} (hc : CallR X (.builtin id) r) (hg : Gl X nm) (hm : X.mg nm = none) (hv : bootBuiltins nm = some (.builtin id)) (ha : EvalA X (e :: as) es PA) (hr : ∀ ds, PA ds → CallD X.K r ds P)
    (hn : nm ≠ "__name__" := by decide) (hdb : (nm == ("__debug__" : Str)) = false := by decide) (he : starEach (e :: as) X.env = (false, eval e X.env) :: starEach as X.env := by rfl) (hpl : (backTo pos (starEach as X.env)).any (·.1) = false := by rfl) :
    Eval X (.Call (.Name nm p) (e :: as) [] pos) es P := fun W O σ H S Q q =>
  tes_of (pe_callB hc hg hm hv pa_s hn hdb he hpl) (ha W O σ H S _ fun vs H1 ds f1 S1 p1 r1 => hr ds p1 O vs H1 S1.occ r1 Q fun z H' d sm p r => q z H' d (f1.trans (Same.fx sm)) (S1.same sm) p r)
theorem ev_callTy {T : String} {r : List V → Hp → VK → Prop} {PA : List PyData → Prop} (hc : CallR X (.type T) r) (hg : Gl X nm) (hm : X.mg nm = none) (hv : bootBuiltins nm = some (.type T)) (ha : EvalA X (e :: as) es PA) (hr : ∀ ds, PA ds → CallD X.K r ds P)
    (hn : nm ≠ "__name__" := by decide) (hdb : (nm == ("__debug__" : Str)) = false := by decide) (he : starEach (e :: as) X.env = (false, eval e X.env) :: starEach as X.env := by rfl) (hpl : (backTo pos (starEach as X.env)).any (·.1) = false := by rfl) :
    Eval X (.Call (.Name nm p) (e :: as) [] pos) es P := fun W O σ H S Q q =>
  tes_of (pe_callTy hc hg hm hv pa_s hn hdb he hpl) (ha W O σ H S _ fun vs H1 ds f1 S1 p1 r1 => hr ds p1 O vs H1 S1.occ r1 Q fun z H' d sm p r => q z H' d (f1.trans (Same.fx sm)) (S1.same sm) p r)
/-- .. a built-in that the module imports -/
theorem ev_callM {id : String} {r : List V → Hp → VK → Prop} {PA : List PyData → Prop} (hc : CallR X (.builtin id) r) (hg : Gl X nm) (hm : X.mg nm = some (.builtin id)) (ha : EvalA X (e :: as) es PA) (hr : ∀ ds, PA ds → CallD X.K r ds P)
    (hdb : (nm == ("__debug__" : Str)) = false := by decide) (he : starEach (e :: as) X.env = (false, eval e X.env) :: starEach as X.env := by rfl) (hpl : (backTo pos (starEach as X.env)).any (·.1) = false := by rfl) :
    Eval X (.Call (.Name nm p) (e :: as) [] pos) es P := fun W O σ H S Q q =>
  tes_of (pe_callBfun hc hg hm pa_s hdb he hpl) (ha W O σ H S _ fun vs H1 ds f1 S1 p1 r1 => hr ds p1 O vs H1 S1.occ r1 Q fun z H' d sm p r => q z H' d (f1.trans (Same.fx sm)) (S1.same sm) p r)
/-- of its own list -/
def CallO (K : PySem.W.Frag) (r : List V → Hp → VK → Prop) (xs : List PyData) (P : PyData → Prop) : Prop :=
  ∀ (O : List Addr) (a : Addr) (vs : List V) (H : Hp), (∀ a ∈ O, H a ≠ none) → H a = some (.lst vs) → RpAll K (hid H O) vs xs → ∀ Q : VK, (∀ z H' d, Same H H' → P d → Rp K (hid H' O) z d → Q z H') → r [.ref a] H Q
variable {i : Nat} {x : Str} {px : Pos} {xs : List PyData}
theorem ev_callBO {id : String} {r : List V → Hp → VK → Prop} (hc : CallR X (.builtin id) r) (hg : Gl X nm) (hm : X.mg nm = none) (hv : bootBuiltins nm = some (.builtin id)) (hi : es[i]? = some (.own xs)) (hN : X.N[i]? = some x) (hx : Vis X.env.scope x) (hr : CallO X.K r xs P)
    (hd : (x == ("__debug__" : Str)) = false := by decide) (hcd : (x == ("__classdict__" : Str)) = false := by decide) (hn : nm ≠ "__name__" := by decide) (hdb : (nm == ("__debug__" : Str)) = false := by decide) (he : starEach [.Name x px] X.env = (false, eval (.Name x px) X.env) :: starEach [] X.env := by rfl) (hpl : (backTo pos (starEach [] X.env)).any (·.1) = false := by rfl) :
    Eval X (.Call (.Name nm p) [.Name x px] [] pos) es P := fun W O σ H S Q q =>
  tes_of (pe_callB hc hg hm hv (pa_cons pe_s pa_nil he) hn hdb he hpl) (own_name hi hN hx hd hcd S fun a vs m n e r => hr O a vs H S.occ e r Q fun z H' d sm p r => q z H' d (Same.fx sm) (S.same sm) p r)
theorem ev_callTyO {T : String} {r : List V → Hp → VK → Prop} (hc : CallR X (.type T) r) (hg : Gl X nm) (hm : X.mg nm = none) (hv : bootBuiltins nm = some (.type T)) (hi : es[i]? = some (.own xs)) (hN : X.N[i]? = some x) (hx : Vis X.env.scope x) (hr : CallO X.K r xs P)
    (hd : (x == ("__debug__" : Str)) = false := by decide) (hcd : (x == ("__classdict__" : Str)) = false := by decide) (hn : nm ≠ "__name__" := by decide) (hdb : (nm == ("__debug__" : Str)) = false := by decide) (he : starEach [.Name x px] X.env = (false, eval (.Name x px) X.env) :: starEach [] X.env := by rfl) (hpl : (backTo pos (starEach [] X.env)).any (·.1) = false := by rfl) :
    Eval X (.Call (.Name nm p) [.Name x px] [] pos) es P := fun W O σ H S Q q =>
  tes_of (pe_callTy hc hg hm hv (pa_cons pe_s pa_nil he) hn hdb he hpl) (own_name hi hN hx hd hcd S fun a vs m n e r => hr O a vs H S.occ e r Q fun z H' d sm p r => q z H' d (Same.fx sm) (S.same sm) p r)

abbrev rLen (K : PySem.W.Frag) : List V → Hp → VK → Prop := fun xs H Q => ∃ p ys, xs = [.ref p] ∧ (SqL K H p ys ∨ SqT K H p ys) ∧ Q (.int ys.length) H
abbrev rTupOf (K : PySem.W.Frag) : List V → Hp → VK → Prop := fun xs H Q => ∃ p ys, xs = [.ref p] ∧ ((SqL K H p ys ∧ ∀ l, H l = none → Q (.ref l) (upd H l (.tup ys))) ∨ (SqT K H p ys ∧ Q (.ref p) H))
theorem not_occ {O : List Addr} {H : Hp} (h : ∀ a ∈ O, H a ≠ none) {l : Addr} (n : H l = none) : l ∉ O := fun z => h l z n
theorem cd_lenT {xs : List PyData} : CallD K (rLen K) [.tuple xs] (Is (.int xs.length)) := fun O vs H _ r Q q => by
  cases r with
  | cons h t =>
    cases t
    cases h with
    | tup hs ra => exact ⟨_, _, rfl, .inr (sqt_mono (hid_sub H O) hs), q _ H _ (Same.refl H) rfl (by rw [ra.length]; exact .int _)⟩
theorem cd_lenL {xs : List PyData} : CallD K (rLen K) [.list xs] (Is (.int xs.length)) := fun O vs H _ r Q q => by
  cases r with
  | cons h t =>
    cases t
    cases h with
    | lst hs ra => exact ⟨_, _, rfl, .inl (SqL.of (hid_some.mp hs).2), q _ H _ (Same.refl H) rfl (by rw [ra.length]; exact .int _)⟩
theorem co_len {xs : List PyData} : CallO K (rLen K) xs (Is (.int xs.length)) := fun O a vs H _ h r Q q => ⟨a, vs, rfl, .inl (SqL.of h), q _ H _ (Same.refl H) rfl (by rw [r.length]; exact .int _)⟩
theorem cd_tupL {xs : List PyData} : CallD K (rTupOf K) [.list xs] (Is (.tuple xs)) := fun O vs H oc r Q q => by
  cases r with
  | cons h t =>
    cases t
    cases h with
    | lst hs ra =>
      refine ⟨_, _, rfl, .inl ⟨SqL.of (hid_some.mp hs).2, fun l hl => ?_⟩⟩
      exact q _ _ _ (same_new hl) rfl (.tup (SqT.of (hid_some.mpr ⟨not_occ oc hl, upd_same⟩)) (ra.mono (hid_ext O (same_new hl))))
theorem cd_tupT {xs : List PyData} : CallD K (rTupOf K) [.tuple xs] (Is (.tuple xs)) := fun O vs H oc r Q q => by
  cases r with
  | cons h t =>
    cases t
    cases h with
    | tup hs ra => exact ⟨_, _, rfl, .inr ⟨sqt_mono (hid_sub H O) hs, q _ _ _ (Same.refl H) rfl (.tup hs ra)⟩⟩
theorem co_tup {xs : List PyData} : CallO K (rTupOf K) xs (Is (.tuple xs)) := fun O a vs H oc h r Q q => by
  refine ⟨a, vs, rfl, .inl ⟨SqL.of h, fun l hl => ?_⟩⟩
  exact q _ _ _ (same_new hl) rfl (.tup (SqT.of (hid_some.mpr ⟨not_occ oc hl, upd_same⟩)) (r.mono (hid_ext O (same_new hl))))
theorem co_sum {ns : List Int} : CallO K (rSum K) (ns.map .int) (Is (.int ns.sum)) := fun O a vs H oc h r Q q => ⟨a, ns, rfl, by
  rw [← r.intsOf]
  exact SqL.of h, q _ H _ (Same.refl H) rfl (.int _)⟩
theorem cd_sum {ns : List Int} : CallD K (rSum K) [.list (ns.map .int)] (Is (.int ns.sum)) := fun O vs H oc r Q q => by
  cases r with
  | cons h t =>
    cases t
    cases h with
    | lst hs ra =>
      rw [ra.intsOf] at hs
      exact ⟨_, ns, rfl, SqL.of (hid_some.mp hs).2, q _ H _ (Same.refl H) rfl (.int _)⟩
theorem cd_all {bs : List Bool} : CallD K (rAll K) [.list (bs.map .bool)] (Is (.bool (bs.all id))) := fun O vs H oc r Q q => by
  cases r with
  | cons h t =>
    cases t
    cases h with
    | lst hs ra =>
      rw [ra.boolsOf] at hs
      exact ⟨_, bs, rfl, SqL.of (hid_some.mp hs).2, q _ H _ (Same.refl H) rfl (.bl _)⟩
theorem cd_gcd {i j : Int} : CallD K rGcd [.int i, .int j] (Is (.int ((Nat.gcd i.natAbs j.natAbs : Nat) : Int))) := fun O vs H oc r Q q => by
  cases r with
  | cons h t =>
    cases h
    cases t with
    | cons h t =>
      cases h
      cases t
      exact ⟨i, j, rfl, q _ H _ (Same.refl H) rfl (.int _)⟩
theorem cd_abs {i : Int} : CallD K (fun xs H Q => ∃ i, xs = [.int i] ∧ Q (.int (if i < 0 then -i else i)) H) [.int i] (Is (.int (if i < 0 then -i else i))) := fun O vs H oc r Q q => by
  cases r with
  | cons h t =>
    cases h
    cases t
    exact ⟨i, rfl, q _ H _ (Same.refl H) rfl (.int _)⟩
theorem cd_int {i : Int} : CallD K (fun xs H Q => (∃ i, xs = [.int i] ∧ Q (.int i) H) ∨ ∃ k, xs = [.bl k] ∧ Q (.int (if k then 1 else 0)) H) [.int i] (Is (.int i)) := fun O vs H oc r Q q => by
  cases r with
  | cons h t =>
    cases h
    cases t
    exact .inl ⟨i, rfl, q _ H _ (Same.refl H) rfl (.int _)⟩
theorem cd_max2 {i j : Int} : CallD K (fun xs H Q => ∃ i j, xs = [.int i, .int j] ∧ Q (.int (if j > i then j else i)) H) [.int i, .int j] (Is (.int (if j > i then j else i))) := fun O vs H oc r Q q => by
  cases r with
  | cons h t =>
    cases h
    cases t with
    | cons h t =>
      cases h
      cases t
      exact ⟨i, j, rfl, q _ H _ (Same.refl H) rfl (.int _)⟩
theorem cd_min2 {i j : Int} : CallD K (fun xs H Q => ∃ i j, xs = [.int i, .int j] ∧ Q (.int (if j < i then j else i)) H) [.int i, .int j] (Is (.int (if j < i then j else i))) := fun O vs H oc r Q q => by
  cases r with
  | cons h t =>
    cases h
    cases t with
    | cons h t =>
      cases h
      cases t
      exact ⟨i, j, rfl, q _ H _ (Same.refl H) rfl (.int _)⟩
/-- list(x), new -/
theorem en_list {as : List PyData} (hg : Gl X "list") (hm : X.mg "list" = none) (ha : Eval X a es (Is (.list as)) ∨ Eval X a es (Is (.tuple as)))
    (he : starEach [a] X.env = (false, eval a X.env) :: starEach [] X.env := by rfl) (hpl : (backTo pos (starEach [] X.env)).any (·.1) = false := by rfl) : EvalN X (.Call (.Name "list" p) [a] [] pos) es (IsL as) := fun W O σ H S Q q => by
  refine tes_of (pe_callTy call_list_of hg hm (by decide +kernel) (pa_cons pe_s pa_nil he) (by decide) (by decide) he hpl) ?_
  rcases ha with ha | ha
  · refine ha W O σ H S _ fun x H1 d f1 S1 p1 r1 => ?_
    have p1' : d = .list as := p1
    subst p1'
    cases r1 with
    | lst hs ra => exact ⟨_, _, rfl, .inl (SqL.of (hid_some.mp hs).2), fun l hl => q l _ _ _ (f1.trans (Same.fx (same_new hl))) (S1.same (same_new hl)) rfl (new_of S1 f1 hl) upd_same (ra.mono (rp_hid_new hl))⟩
  · refine ha W O σ H S _ fun x H1 d f1 S1 p1 r1 => ?_
    have p1' : d = .tuple as := p1
    subst p1'
    cases r1 with
    | tup hs ra => exact ⟨_, _, rfl, .inr (sqt_mono (hid_sub _ _) hs), fun l hl => q l _ _ _ (f1.trans (Same.fx (same_new hl))) (S1.same (same_new hl)) rfl (new_of S1 f1 hl) upd_same (ra.mono (rp_hid_new hl))⟩
end
end Ab

set_option maxHeartbeats 4000000
/-! Walks, comprehensions. -/
namespace Ab
open PySem PySem.Spec PyProof.Rows L2

structure TIr (X : Cx) (tg iter : Expr) (σ : L2.St) (H : Hp) (R : It → Hp → Prop) : Prop where
  go : ∀ (pins : List (Addr × Obj)) (s : Shared), Inv X pins σ H s → wpAny (model X.prog X.w) X.A (eval iter X.env) (fun v s1 => wpAny (model X.prog X.w) X.A (pyIter v) (PIE X pins σ tg R) X.xe s1) X.xe s
structure TGr (X : Cx) (tg : Expr) (v : V) (σ : L2.St) (H : Hp) (Q : L2.St → Hp → Prop) : Prop where
  go : ∀ (pins : List (Addr × Obj)) (s : Shared) (u : Value), Inv X pins σ H s → RelV v u → wpAny (model X.prog X.w) X.A (assign tg X.env u) (fun _ s' => ∃ σ' H', Inv X pins σ' H' s' ∧ Q σ' H') X.xe s
def TIs (X : Cx) (tg iter : Expr) : TI := fun σ H R => TIr X tg iter σ H R
def TGs (X : Cx) (tg : Expr) : TG := fun v σ H Q => TGr X tg v σ H Q
def TPs (X : Cx) (ifs : List Expr) : TT := fun σ H Q => ∃ t, PTs X ifs t ∧ t σ H Q
theorem pi_s {X : Cx} {tg iter : Expr} : PI X tg iter (TIs X tg iter) := ⟨fun pins s _ _ _ I h => h.go pins s I⟩
theorem pg_s {X : Cx} {tg : Expr} : PG X tg (TGs X tg) := ⟨fun pins s _ _ _ u _ I r h => h.go pins s u I r⟩
theorem tis_of {X : Cx} {tg iter : Expr} {t : TI} {σ : L2.St} {H : Hp} {R : It → Hp → Prop} (h : PI X tg iter t) (q : t σ H R) : TIs X tg iter σ H R := ⟨fun pins s I => h.run pins s σ H R I q⟩
theorem tgs_of {X : Cx} {tg : Expr} {t : TG} {v : V} {σ : L2.St} {H : Hp} {Q : L2.St → Hp → Prop} (h : PG X tg t) (q : t v σ H Q) : TGs X tg v σ H Q := ⟨fun pins s u I r => h.run pins s σ H v u Q I r q⟩

/-! ### what is walked -/
def Yl (K : PySem.W.Frag) (ok : List Addr → Hp → Prop) (J : It) (items : List PyData) : Prop :=
  ∀ (O : List Addr) (H : Hp), ok O H → (∀ a ∈ O, H a ≠ none) → (∀ (i : Nat) (d : PyData), items[i]? = some d → J.go i H ∧ ∀ x H', J.yld i H x H' → Same H H' ∧ Rp K (hid H' O) x d) ∧ J.stop items.length H
/-- walked by a loop -/
def IterL (X : Cx) (tg iter : Expr) (es : List Sl) (P : List PyData → Prop) : Prop :=
  ∀ (W : Vw) (O : List Addr) (σ : L2.St) (H : Hp), StO X.K W O H σ es → ∀ R : It → Hp → Prop, (∀ J H1 items, Fx W H H1 → StO X.K W O H1 σ es → P items → Yl X.K (fun O' H' => Trn O H1 O' H') J items → R J H1) → TIs X tg iter σ H R
/-- walked by a comprehension -/
def IterC (X : Cx) (tg iter : Expr) (es : List Sl) (P : List PyData → Prop) : Prop :=
  ∀ (W : Vw) (O : List Addr) (σ : L2.St) (H : Hp), StO X.K W O H σ es → ∀ R : It → Hp → Prop, (∀ J H1 items, Fx W H H1 → StO X.K W O H1 σ es → P items → Yl X.K (fun O' H' => ∃ D, H1 D = none ∧ O' = D :: O ∧ Fx W H1 H') J items → R J H1) → TIs X tg iter σ H R
section
variable {X : Cx} {tg iter e a b ct : Expr} {es : List Sl} {pos p : Pos} {K : PySem.W.Frag} {P : List PyData → Prop}
theorem IterL.c (h : IterL X tg iter es P) : IterC X tg iter es P := fun W O σ H S R q => h W O σ H S R fun J H1 items f1 S1 p y => q J H1 items f1 S1 p fun O' H' ⟨D, hD, eO, f⟩ oc => by
  subst eO
  refine y (D :: O) H' ⟨fun a ha => ?_, fun b o hb e => f b o (fun z => hb (S1.spr b z).1) e⟩ oc
  rcases List.mem_cons.mp ha with z | z
  · exact .inr (by rw [z]; exact hD)
  · exact .inl z

theorem sq_mono {t : Bool} {H H' : Hp} (e : Same H H') {a : Addr} {xs : List V} (h : Sq K t H a xs) : Sq K t H' a xs := by
  cases t with
  | true => exact sqt_mono e h
  | false =>
    rcases h with (h | ⟨o, h⟩) | h
    · exact .inl (.inl (e _ _ h))
    · exact .inl (.inr ⟨o, e _ _ h⟩)
    · exact .inr h
/-- a list or a tuple of these -/
def Seqd (d : PyData) (xs : List PyData) : Prop := d = .list xs ∨ d = .tuple xs
theorem rp_sq {H : Hp} {v : V} {d : PyData} {xs : List PyData} (r : Rp K H v d) (s : Seqd d xs) : ∃ t a vs, v = .ref a ∧ Sq K t H a vs ∧ RpAll K H vs xs := by
  rcases s with rfl | rfl
  · cases r with
    | lst hs ra => exact ⟨false, _, _, rfl, SqL.of hs, ra⟩
  · cases r with
    | tup hs ra => exact ⟨true, _, _, rfl, hs, ra⟩
theorem it_list {xs : List PyData} (ha : Eval X e es (Is (.list xs))) : IterL X tg e es (IsL xs) := fun W O σ H S R q =>
  tis_of (pi_list pe_s) (ha W O σ H S _ fun x H1 d f1 S1 p1 r1 => by
    have p1' : d = .list xs := p1
    subst p1'
    cases r1 with
    | lst hs ra =>
      refine ⟨_, rfl, ⟨_, SqL.of (hid_some.mp hs).2⟩, q _ H1 xs f1 S1 rfl fun O' H' t oc => ?_⟩
      have hs' := t.hid _ _ hs
      have ra' := ra.mono t.hid
      refine ⟨fun i d hd => ?_, ⟨_, SqL.of (hid_some.mp hs').2, by rw [ra'.length]; exact Nat.le_refl _⟩⟩
      obtain ⟨v, hv, rv⟩ := ra'.get hd
      refine ⟨⟨_, v, SqL.of (hid_some.mp hs').2, hv⟩, fun x H'' y => ?_⟩
      obtain ⟨e1, y⟩ := y
      subst e1
      have e2 := y _ (SqL.of (hid_some.mp hs').2)
      rw [hv] at e2
      have e3 := Option.some.inj e2
      subst e3
      exact ⟨Same.refl _, rv⟩)
theorem it_tup {xs : List PyData} (ha : Eval X e es (Is (.tuple xs))) : IterL X tg e es (IsL xs) := fun W O σ H S R q =>
  tis_of (pi_tup pe_s) (ha W O σ H S _ fun x H1 d f1 S1 p1 r1 => by
    have p1' : d = .tuple xs := p1
    subst p1'
    cases r1 with
    | tup hs ra =>
      refine ⟨_, rfl, ⟨_, sqt_mono (hid_sub _ _) hs⟩, q _ H1 xs f1 S1 rfl fun O' H' t oc => ?_⟩
      have hs' := sqt_mono (hid_sub _ _) (sqt_mono t.hid hs)
      have ra' := ra.mono t.hid
      refine ⟨fun i d hd => ?_, ⟨_, hs', by rw [ra'.length]; exact Nat.le_refl _⟩⟩
      obtain ⟨v, hv, rv⟩ := ra'.get hd
      refine ⟨⟨_, v, hs', hv⟩, fun x H'' y => ?_⟩
      obtain ⟨e1, y⟩ := y
      subst e1
      have e2 := y _ hs'
      rw [hv] at e2
      have e3 := Option.some.inj e2
      subst e3
      exact ⟨Same.refl _, rv⟩)
/-- its own list, in a comprehension -/
theorem it_own {i : Nat} {x : Str} {xs : List PyData} (he : es[i]? = some (.own xs)) (hN : X.N[i]? = some x) (hv : Vis X.env.scope x) (hd : (x == ("__debug__" : Str)) = false := by decide) (hcd : (x == ("__classdict__" : Str)) = false := by decide) : IterC X tg (.Name x pos) es (IsL xs) := fun W O σ H S R q =>
  tis_of (pi_list pe_s) (own_name he hN hv hd hcd S fun a vs m n hs ra => by
    refine ⟨_, rfl, ⟨_, SqL.of hs⟩, q _ H xs (Fx.refl W H) S rfl fun O' H' ⟨D, hD, eO, f⟩ oc => ?_⟩
    subst eO
    have hs' := f _ _ n hs
    have ra' : RpAll X.K (hid H' (D :: O)) vs xs := ra.mono fun b o z => by
      obtain ⟨z1, z2⟩ := hid_some.mp z
      refine hid_some.mpr ⟨fun w => ?_, f b o (fun w => z1 (S.spr b w).1) z2⟩
      rcases List.mem_cons.mp w with w | w
      · rw [w, hD] at z2
        cases z2
      · exact z1 w
    refine ⟨fun i d hd => ?_, ⟨_, SqL.of hs', by rw [ra'.length]; exact Nat.le_refl _⟩⟩
    obtain ⟨v, hv, rv⟩ := ra'.get hd
    refine ⟨⟨_, v, SqL.of hs', hv⟩, fun x H'' y => ?_⟩
    obtain ⟨e1, y⟩ := y
    subst e1
    have e2 := y _ (SqL.of hs')
    rw [hv] at e2
    have e3 := Option.some.inj e2
    subst e3
    exact ⟨Same.refl _, rv⟩)
theorem it_zip {e2 : Expr} {d1 d2 : PyData} {xs ys : List PyData} {elts : List Expr} {kk : Nat} {tpos : Pos} (hg : Gl X "zip") (hm : X.mg "zip" = none) (ha : Eval X e es (Is d1)) (hb : Eval X e2 es (Is d2)) (s1 : Seqd d1 xs) (s2 : Seqd d2 ys)
    (hs : starEach [e, e2] X.env = (false, eval e X.env) :: starEach [e2] X.env := by rfl) (hs2 : starEach [e2] X.env = (false, eval e2 X.env) :: starEach [] X.env := by rfl) (hpl : (backTo pos (starEach [e2] X.env)).any (·.1) = false := by rfl) :
    IterL X (.Tuple elts kk tpos) (.Call (.Name "zip" p) [e, e2] [] pos) es (IsL (List.zipWith (fun x y => .tuple [x, y]) xs ys)) := fun W O σ H S R q =>
  tis_of (pi_zip2 hg hm (pa_cons pe_s (pa_cons pe_s pa_nil hs2) hs) hs hpl) (ha W O σ H S _ fun x H1 d f1 S1 p1 r1 => hb W O σ H1 S1 _ fun y H2 d' f2 S2 p2 r2 => by
    have p1' : d = d1 := p1
    have p2' : d' = d2 := p2
    subst p1' p2'
    obtain ⟨t1, a1, vs, rfl, q1, ra1⟩ := rp_sq (r1.mono (S1.fx_hid f2)) s1
    obtain ⟨t2, a2, us, rfl, q2, ra2⟩ := rp_sq r2 s2
    refine ⟨t1, t2, a1, a2, vs, us, rfl, sq_mono (hid_sub _ _) q1, sq_mono (hid_sub _ _) q2, q _ H2 _ (f1.trans f2) S2 rfl fun O' H' t oc => ?_⟩
    have q1' := sq_mono (hid_sub _ _) (sq_mono t.hid q1)
    have q2' := sq_mono (hid_sub _ _) (sq_mono t.hid q2)
    have ra1' := ra1.mono t.hid
    have ra2' := ra2.mono t.hid
    refine ⟨fun i d hd => ?_, ⟨vs, us, q1', q2', by rw [List.length_zipWith, ra1'.length, ra2'.length]⟩⟩
    rw [List.getElem?_zipWith] at hd
    cases h1 : xs[i]? with
    | none => rw [h1] at hd; cases hd
    | some x1 =>
      cases h2 : ys[i]? with
      | none => rw [h1, h2] at hd; cases hd
      | some x2 =>
        rw [h1, h2] at hd
        have hd' := Option.some.inj hd
        subst hd'
        obtain ⟨v1, hv1, rv1⟩ := ra1'.get h1
        obtain ⟨v2, hv2, rv2⟩ := ra2'.get h2
        refine ⟨⟨vs, us, v1, v2, q1', q2', hv1, hv2⟩, fun x H'' y => ?_⟩
        obtain ⟨T, w1, w2, rfl, hT, rfl, y1, y2⟩ := y
        have e1 := y1 _ q1'
        have e2 := y2 _ q2'
        rw [hv1] at e1
        rw [hv2] at e2
        have e1 := Option.some.inj e1
        have e2 := Option.some.inj e2
        subst e1 e2
        have sm : Same H' (upd H' T (.tup [v1, v2])) := same_new hT
        exact ⟨sm, .tup (SqT.of (hid_some.mpr ⟨not_occ oc hT, upd_same⟩)) ((RpAll.cons rv1 (.cons rv2 .nil)).mono (hid_ext _ sm))⟩)
theorem it_enum {d1 : PyData} {xs : List PyData} {elts : List Expr} {kk : Nat} {tpos : Pos} (hg : Gl X "enumerate") (hm : X.mg "enumerate" = none) (ha : Eval X e es (Is d1)) (s1 : Seqd d1 xs)
    (hs : starEach [e] X.env = (false, eval e X.env) :: starEach [] X.env := by rfl) (hs2 : starEach [e] X.env = [(false, eval e X.env)] := by rfl) :
    IterL X (.Tuple elts kk tpos) (.Call (.Name "enumerate" p) [e] [] pos) es (IsL (xs.mapIdx fun i x => .tuple [.int (i : Int), x])) := fun W O σ H S R q =>
  tis_of (pi_enum2 hg hm (pa_cons pe_s pa_nil hs) hs2) (ha W O σ H S _ fun x H2 d f2 S2 p1 r1 => by
    have p1' : d = d1 := p1
    subst p1'
    obtain ⟨t1, a1, vs, rfl, q1, ra1⟩ := rp_sq r1 s1
    refine ⟨t1, a1, vs, rfl, sq_mono (hid_sub _ _) q1, q _ H2 _ f2 S2 rfl fun O' H' t oc => ?_⟩
    have q1' := sq_mono (hid_sub _ _) (sq_mono t.hid q1)
    have ra1' := ra1.mono t.hid
    refine ⟨fun i d hd => ?_, ⟨vs, q1', by rw [List.length_mapIdx, ra1'.length]⟩⟩
    rw [List.getElem?_mapIdx] at hd
    cases h1 : xs[i]? with
    | none => rw [h1] at hd; cases hd
    | some x1 =>
      rw [h1] at hd
      have hd' := Option.some.inj hd
      subst hd'
      obtain ⟨v1, hv1, rv1⟩ := ra1'.get h1
      refine ⟨⟨vs, v1, q1', hv1⟩, fun x H'' y => ?_⟩
      obtain ⟨T, w1, rfl, hT, rfl, y1⟩ := y
      have e1 := y1 _ q1'
      rw [hv1] at e1
      have e1 := Option.some.inj e1
      subst e1
      have sm : Same H' (upd H' T (.tup [.int (i : Int), v1])) := same_new hT
      exact ⟨sm, .tup (SqT.of (hid_some.mpr ⟨not_occ oc hT, upd_same⟩)) ((RpAll.cons (.int (i : Int)) (.cons rv1 .nil)).mono (hid_ext _ sm))⟩)
/-- 0, 1, .. (n of them), from lo on -/
def rangeD (lo : Int) (n : Nat) : List PyData := (List.range n).map fun (i : Nat) => PyData.int (lo + (i : Int))
theorem yl_range {ok : List Addr → Hp → Prop} (lo : Int) (n : Nat) : Yl K ok (Itr lo n) (rangeD lo n) := fun O H _ _ => by
  have hl : (rangeD lo n).length = n := by
    unfold rangeD
    rw [List.length_map, List.length_range]
  refine ⟨fun i d hd => ?_, by rw [hl]; exact Nat.le_refl n⟩
  have hi : i < n := by
    have := (List.getElem?_eq_some_iff.mp hd).1
    rw [hl] at this
    exact this
  unfold rangeD at hd
  rw [List.getElem?_map, List.getElem?_range hi] at hd
  have hd' := Option.some.inj hd
  subst hd'
  refine ⟨hi, fun x H' y => ?_⟩
  obtain ⟨e1, e2⟩ := y
  subst e1 e2
  exact ⟨Same.refl _, .int _⟩
theorem it_range {Pa : PyData → Prop} (hg : Gl X "range") (hm : X.mg "range" = none) (ha : Eval X e es Pa) (hp : ∀ d, Pa d → ∃ n : Nat, d = .int (n : Int) ∧ n ≤ 100000 ∧ P (rangeD 0 n))
    (hs : starEach [e] X.env = [(false, eval e X.env)] := by rfl) (hs2 : starEach [e] X.env = (false, eval e X.env) :: starEach [] X.env := by rfl) : IterL X tg (.Call (.Name "range" p) [e] [] pos) es P := fun W O σ H S R q =>
  tis_of (pi_range1 hg hm (pa_cons pe_s pa_nil hs2) hs) (ha W O σ H S _ fun x H2 d f2 S2 p1 r1 => by
    obtain ⟨n, rfl, hn, hP⟩ := hp d p1
    cases r1
    refine ⟨(n : Int), rfl, by omega, by omega, ?_⟩
    rw [Int.toNat_natCast]
    exact q _ H2 _ f2 S2 hP (yl_range 0 n))
theorem it_rangeI {n : Nat} (hg : Gl X "range") (hm : X.mg "range" = none) (ha : Eval X e es (Is (.int (n : Int)))) (hn : n ≤ 100000)
    (hs : starEach [e] X.env = [(false, eval e X.env)] := by rfl) (hs2 : starEach [e] X.env = (false, eval e X.env) :: starEach [] X.env := by rfl) : IterL X tg (.Call (.Name "range" p) [e] [] pos) es (IsL (rangeD 0 n)) :=
  it_range hg hm ha (by rintro _ rfl; exact ⟨n, rfl, hn, rfl⟩) hs hs2
theorem it_range2 {m n : Nat} (hg : Gl X "range") (hm : X.mg "range" = none) (ha : Eval X a es (Is (.int (m : Int)))) (hb : Eval X b es (Is (.int (n : Int)))) (hn : m ≤ 100000 ∧ n ≤ 100000)
    (hs : starEach [a, b] X.env = [(false, eval a X.env), (false, eval b X.env)] := by rfl) (hs2 : starEach [b] X.env = [(false, eval b X.env)] := by rfl) (hs3 : starEach [a, b] X.env = (false, eval a X.env) :: starEach [b] X.env := by rfl) (hs4 : starEach [b] X.env = (false, eval b X.env) :: starEach [] X.env := by rfl) :
    IterL X tg (.Call (.Name "range" p) [a, b] [] pos) es (IsL (rangeD (m : Int) (n - m))) := fun W O σ H S R q =>
  tis_of (pi_range2 hg hm (pa_cons pe_s (pa_cons pe_s pa_nil hs4) hs3) hs hs2) (ha W O σ H S _ fun x H1 d f1 S1 p1 r1 => hb W O σ H1 S1 _ fun y H2 d' f2 S2 p2 r2 => by
    have p1' : d = .int (m : Int) := p1
    have p2' : d' = .int (n : Int) := p2
    subst p1' p2'
    cases r1
    cases r2
    refine ⟨(m : Int), (n : Int), rfl, ⟨by omega, by omega, by omega, by omega⟩, ?_⟩
    have e1 : ((n : Int) - (m : Int)).toNat = n - m := by omega
    rw [e1]
    exact q _ H2 _ (f1.trans f2) S2 rfl (yl_range (m : Int) (n - m)))

/-! ### targets -/
theorem wipe_get (σ : L2.St) : ∀ (vs : List Nat) (j : Nat), (wipe σ vs)[j]? = if j ∈ vs ∧ j < σ.length then some none else σ[j]?
  | [], j => by simp [wipe]
  | v :: vs, j => by
    show ((wipe σ vs).set v none)[j]? = _
    by_cases h : v = j
    · subst h
      by_cases hl : v < σ.length
      · rw [List.getElem?_set_self (by rw [wipe_length]; exact hl), if_pos ⟨List.mem_cons_self, hl⟩]
      · rw [List.getElem?_eq_none (by rw [List.length_set, wipe_length]; omega), if_neg (fun z => hl z.2), List.getElem?_eq_none (by omega)]
    · rw [List.getElem?_set_ne h, wipe_get σ vs j]
      have e : (j ∈ v :: vs ∧ j < σ.length) ↔ (j ∈ vs ∧ j < σ.length) := by
        constructor
        · rintro ⟨h1, h2⟩
          rcases List.mem_cons.mp h1 with z | z
          · exact absurd z.symm h
          · exact ⟨z, h2⟩
        · rintro ⟨h1, h2⟩
          exact ⟨List.mem_cons_of_mem _ h1, h2⟩
      by_cases z : j ∈ vs ∧ j < σ.length
      · rw [if_pos z, if_pos (e.mpr z)]
      · rw [if_neg z, if_neg (fun w => z (e.mp w))]
theorem wipe_set {σ : L2.St} {vs : List Nat} {i : Nat} {x : Option V} (h : i ∈ vs) : wipe (σ.set i x) vs = wipe σ vs := by
  apply List.ext_getElem?
  intro j
  rw [wipe_get, wipe_get, List.length_set]
  by_cases z : j ∈ vs ∧ j < σ.length
  · rw [if_pos z, if_pos z]
  · rw [if_neg z, if_neg z]
    by_cases hj : i = j
    · subst hj
      have hl : σ.length ≤ i := by
        apply Nat.le_of_not_lt
        intro w
        exact z ⟨h, w⟩
      rw [List.getElem?_eq_none (by rw [List.length_set]; exact hl), List.getElem?_eq_none hl]
    · rw [List.getElem?_set_ne hj]
theorem wipe_idem {σ : L2.St} {vs : List Nat} : wipe (wipe σ vs) vs = wipe σ vs := by
  apply List.ext_getElem?
  intro j
  rw [wipe_get, wipe_get, wipe_length]
  by_cases z : j ∈ vs ∧ j < σ.length
  · rw [if_pos z, if_pos z]
  · rw [if_neg z]
/-- a target takes a datum -/
def Tgt (X : Cx) (tg : Expr) (ix : List Nat) (es : List Sl) (d : PyData) (es' : List Sl) : Prop :=
  ∀ (W : Vw) (O : List Addr) (σ : L2.St) (H : Hp) (v : V), StO X.K W O H σ es → Rp X.K (hid H O) v d → ∀ Q : L2.St → Hp → Prop, (∀ σ', StO X.K W O H σ' es' → (∀ vs, (∀ i ∈ ix, i ∈ vs) → wipe σ' vs = wipe σ vs) → Q σ' H) → TGs X tg v σ H Q
theorem tg_name {i : Nat} {x : Str} {d : PyData} (hN : X.N.Nodup) (hi : X.N[i]? = some x) (hx : Loc X.env.scope x) (hf : X.fn x = true ∨ X.env.scope.names.lookup x = some .local) : Tgt X (.Name x pos) [i] es d (es.set i (.val d)) := fun W O σ H v S r Q q =>
  tgs_of (pg_name hN hi hx hf) (q _ (S.set i r) fun vs h => wipe_set (h i List.mem_cons_self))
theorem tg_pair {i j : Nat} {x y : Str} {d1 d2 : PyData} {p1 p2 : Pos} {kk : Nat} (hc : X.calm = true) (hN : X.N.Nodup) (hi : X.N[i]? = some x) (hx : Loc X.env.scope x) (hf : X.fn x = true ∨ X.env.scope.names.lookup x = some .local) (hj : X.N[j]? = some y) (hy : Loc X.env.scope y) (hfy : X.fn y = true ∨ X.env.scope.names.lookup y = some .local)
    (hs1 : (assignEach [.Name x p1, .Name y p2] X.env).map (·.2) = assign (.Name x p1) X.env :: (assignEach [.Name y p2] X.env).map (·.2) := by rfl) (hs2 : (assignEach [.Name y p2] X.env).map (·.2) = assign (.Name y p2) X.env :: (assignEach [] X.env).map (·.2) := by rfl)
    (hn : (assignEach [.Name x p1, .Name y p2] X.env).length = 2 := by rfl) (hst : (assignEach [.Name x p1, .Name y p2] X.env).findIdx? (·.1) = none := by rfl) :
    Tgt X (.Tuple [.Name x p1, .Name y p2] kk pos) [i, j] es (.tuple [d1, d2]) ((es.set i (.val d1)).set j (.val d2)) := fun W O σ H v S r Q q => by
  cases r with
  | tup hs ra =>
    cases ra with
    | cons r1 ra =>
      cases ra with
      | cons r2 ra =>
        cases ra
        refine tgs_of (pg_tup hc (pgs_cons (pg_name hN hi hx hf) (pgs_cons (pg_name hN hj hy hfy) pgs_nil hs2) hs1) hn hst) ⟨_, _, rfl, sqt_mono (hid_sub _ _) hs, rfl, _, _, rfl, _, _, rfl, rfl, ?_⟩
        exact q _ ((S.set i r1).set j r2) fun vs h => by
          rw [wipe_set (h j (by simp)), wipe_set (h i (by simp))]

/-! ### tests of a clause -/
def EvTs (X : Cx) (ifs : List Expr) (es : List Sl) (P : Bool → Prop) : Prop :=
  ∀ (W : Vw) (O : List Addr) (σ : L2.St) (H : Hp), StO X.K W O H σ es → ∀ Q : Bool → Hp → Prop, (∀ b H', Fx W H H' → StO X.K W O H' σ es → P b → Q b H') → TPs X ifs σ H Q
theorem es_nil : EvTs X [] es (IsB true) := fun W O σ H S Q q => ⟨_, pts_nil, q true H (Fx.refl W H) S rfl⟩
theorem es_one {P : Bool → Prop} (h : EvalT X ct es P) : EvTs X [ct] es P := fun W O σ H S Q q => ⟨_, pts_one pt_s, h W O σ H S Q q⟩

/-! ### comprehensions -/
abbrev Cb (X : Cx) (scope : Scope) (s : Shared) (H : Hp) (C : Addr) (cl : List (Str × Addr)) (fp : List Addr) : Cx := X.blk s H scope (compEnvC scope cl C X.env) fp
theorem StO.push {W : Vw} {O : List Addr} {H : Hp} {σ : L2.St} {D : Addr} {o : HO} (S : StO K W O H σ es) (hD : H D = none) : StO K W (D :: O) (upd H D o) σ es := by
  have S1 := S.same (same_new (o := o) hD)
  refine ⟨fun a ha => List.mem_cons_of_mem _ (S1.sub a ha), fun a ha => ?_, S1.frm, fun a ha => ⟨List.mem_cons_of_mem _ (S1.spr a ha).1, (S1.spr a ha).2⟩, fun i e he => ?_, S1.dist, S1.len, S1.o0⟩
  · rcases List.mem_cons.mp ha with z | z
    · rw [z, upd_same]
      exact fun z => nomatch z
    · exact S1.occ a z
  · exact (S.slot i e he).mono (rp_hid_new hD) fun a vs _ _ _ m n q => ⟨List.mem_cons_of_mem _ m, same_new hD _ _ q⟩
theorem StO.wiped {W : Vw} {O : List Addr} {H : Hp} {σ : L2.St} {vs : List Nat} (S : StO K W O H σ es) (h : ∀ i ∈ vs, es[i]? = some .no) : StO K W O H (wipe σ vs) es := by
  have key : ∀ (i : Nat) (e : Sl), es[i]? = some e → e ≠ .no → (wipe σ vs)[i]? = σ[i]? := fun i e he ne => by
    rw [wipe_get, if_neg]
    rintro ⟨h1, _⟩
    have := h i h1
    rw [he] at this
    exact ne (Option.some.inj this)
  refine ⟨S.sub, S.occ, S.frm, S.spr, fun i e he => ?_, fun i j xs ys a h1 h2 h3 h4 => ?_, by rw [wipe_length]; exact S.len, S.o0⟩
  · have q := S.slot i e he
    cases e with
    | no => trivial
    | val d =>
      have := key i _ he (fun z => nomatch z)
      obtain ⟨v, e1, r⟩ := q
      exact ⟨v, this.trans e1, r⟩
    | own xs =>
      have := key i _ he (fun z => nomatch z)
      obtain ⟨a, w, e1, r⟩ := q
      exact ⟨a, w, this.trans e1, r⟩
    | spr =>
      have := key i _ he (fun z => nomatch z)
      obtain ⟨a, e1, r⟩ := q
      exact ⟨a, this.trans e1, r⟩
    | scr ns =>
      have := key i _ he (fun z => nomatch z)
      obtain ⟨a, e1, r⟩ := q
      exact ⟨a, this.trans e1, r⟩
    | dct kvs =>
      have := key i _ he (fun z => nomatch z)
      obtain ⟨a, vs, e1, r⟩ := q
      exact ⟨a, vs, this.trans e1, r⟩
  · rw [key i _ h1 (fun z => nomatch z)] at h3
    rw [key j _ h2 (fun z => nomatch z)] at h4
    exact S.dist i j xs ys a h1 h2 h3 h4
def TGB (X : Cx) (scope : Scope) (tg : Expr) : TG := fun v σ H Q => ∀ s0 H0 C cl fp, TGs (Cb X scope s0 H0 C cl fp) tg v σ H Q
def TPB (X : Cx) (scope : Scope) (ifs : List Expr) : TT := fun σ H Q => ∀ s0 H0 C cl fp, TPs (Cb X scope s0 H0 C cl fp) ifs σ H Q
def TEB (X : Cx) (scope : Scope) (e : Expr) : TE := fun σ H Q => ∀ s0 H0 C cl fp, TEs (Cb X scope s0 H0 C cl fp) e σ H Q
variable {α : Type} {scope : Scope} {own : List (Str × Nat)} {elt : Expr} {ifs : List Expr}
/-- what a turn of a comprehension gives -/
def TurnC (X : Cx) (scope : Scope) (tg : Expr) (ifs : List Expr) (elt : Expr) (ix : List Nat) (es : List Sl) (d : PyData) (keep : Bool) (P : PyData → Prop) : Prop :=
  ∃ es', (∀ s0 H0 C cl fp, Tgt (Cb X scope s0 H0 C cl fp) tg ix es d es') ∧ (∀ s0 H0 C cl fp, EvTs (Cb X scope s0 H0 C cl fp) ifs es' (IsB keep)) ∧ (keep = true → ∀ s0 H0 C cl fp, Eval (Cb X scope s0 H0 C cl fp) elt es' P)
theorem lc_read {xs : List α} {enc : α → PyData} {f : α → Bool} {g : α → PyData} (hi : IterC X tg iter es (IsL (xs.map enc))) (hw : ∀ i ∈ own.map (·.2), es[i]? = some .no) (hl : xs.length ≤ 100000)
    (hb : ∀ x ∈ xs, TurnC X scope tg ifs elt (own.map (·.2)) es (enc x) (f x) (Is (g x)))
    {W : Vw} {O : List Addr} {σ : L2.St} {H : Hp} (S : StO X.K W O H σ es) {Q : VK} (q : ∀ a vs H', Fx W H H' → StO X.K W O H' σ es → H a = none → H' a = some (.lst vs) → RpAll X.K (hid H' (a :: O)) vs ((xs.filter f).map g) → Q (.ref a) H') :
    tLc (TIs X tg iter) (TGB X scope tg) (TPB X scope ifs) (TEB X scope elt) (own.map (·.2)) σ H Q := by
  refine hi W O σ H S _ fun J H1 items f1 S1 p1 y D hD => ?_
  have p1' : items = xs.map enc := p1
  subst p1'
  have hO : ∀ {H' : Hp}, Fx W H1 H' → StO X.K W (D :: O) H' (wipe σ (own.map (·.2))) es → StO X.K W O H' σ es := fun {H'} fx S' =>
    S1.fx fx fun a ha => (S'.spr a ha).2
  refine ⟨fun i m H' => m = xs.length - i ∧ i ≤ xs.length ∧ Fx W H1 H' ∧ StO X.K W (D :: O) H' (wipe σ (own.map (·.2))) es ∧ ∃ acc, H' D = some (.lst acc) ∧ RpAll X.K (hid H' (D :: O)) acc (((xs.take i).filter f).map g),
    ⟨xs.length, rfl, Nat.zero_le _, Same.fx (same_new hD), (S1.push hD).wiped hw, [], upd_same, .nil⟩, ?_⟩
  rintro i m H' ⟨rfl, hle, fx, S', acc, hacc, racc⟩
  have yy := y (D :: O) H' ⟨D, hD, rfl, fx⟩ S'.occ
  by_cases hlt : i < xs.length
  · have hx : xs[i]? = some xs[i] := List.getElem?_eq_getElem hlt
    obtain ⟨es', tgx, tsx, elx⟩ := hb xs[i] (List.getElem_mem hlt)
    have hd : (xs.map enc)[i]? = some (enc xs[i]) := by rw [List.getElem?_map, hx]; rfl
    obtain ⟨go, yld⟩ := yy.1 i _ hd
    have tk : (xs.take (i + 1)) = xs.take i ++ [xs[i]] := by rw [List.take_add_one, hx]; rfl
    refine .inr ⟨go, fun H4 => Fx W H1 H4 ∧ StO X.K W (D :: O) H4 (wipe σ (own.map (·.2))) es ∧ ∃ acc, H4 D = some (.lst acc) ∧ RpAll X.K (hid H4 (D :: O)) acc (((xs.take (i + 1)).filter f).map g), fun H4 h4 => ⟨xs.length - (i + 1), by omega, rfl, hlt, h4⟩, fun x H2 hy => ?_⟩
    obtain ⟨sm, rx⟩ := yld x H2 hy
    intro s0 H0 C cl fp
    refine tgx s0 H0 C cl fp W (D :: O) _ H2 x (S'.same sm) rx _ fun σ2 S2 wp => ⟨?_, ?_⟩
    · rw [wp _ fun i hi => hi]
      exact wipe_idem
    · intro s0 H0 C cl fp
      refine tsx s0 H0 C cl fp W (D :: O) σ2 H2 S2 _ fun b H3 f3 S3 pb => ?_
      have pb' : b = f xs[i] := pb
      subst pb'
      -- the state behind the turn, seen from the list's block
      have back : ∀ {H4 : Hp}, Fx W H2 H4 → StO X.K W (D :: O) H4 σ2 es' → Fx W H1 H4 ∧ StO X.K W (D :: O) H4 (wipe σ (own.map (·.2))) es ∧ H4 D = some (.lst acc) ∧ RpAll X.K (hid H4 (D :: O)) acc (((xs.take i).filter f).map g) := fun {H4} f4 S4 => by
        have f24 : Fx W H' H4 := (Same.fx sm).trans f4
        refine ⟨fx.trans f24, S'.fx f24 fun a ha => (S4.spr a ha).2, f24 D _ (S1.newS hD) hacc, racc.mono (S'.fx_hid f24)⟩
      have lacc : acc.length ≤ 100000 := by
        rw [racc.length, List.length_map]
        have h1 := List.length_filter_le f (xs.take i)
        have h2 := List.length_take_le i xs
        omega
      cases hk : f xs[i] with
      | false =>
        rw [if_neg Bool.false_ne_true]
        obtain ⟨b1, b2, b3, b4⟩ := back f3 S3
        refine ⟨b1, b2, acc, b3, ?_⟩
        rw [tk, List.filter_append, List.filter_cons, if_neg (by rw [hk]; exact Bool.false_ne_true), List.filter_nil, List.append_nil]
        exact b4
      | true =>
        rw [if_pos rfl]
        intro s0 H0 C cl fp
        refine elx hk s0 H0 C cl fp W (D :: O) σ2 H3 S3 _ fun v H4 d f4 S4 pd rv => ?_
        have pd' : d = g xs[i] := pd
        subst pd'
        obtain ⟨b1, b2, b3, b4⟩ := back (f3.trans f4) S4
        refine ⟨acc, b3, Nat.lt_of_le_of_lt lacc (by decide), ?_⟩
        have hidU : Same (hid H4 (D :: O)) (hid (upd H4 D (.lst (acc ++ [v]))) (D :: O)) := fun b o e => by
          obtain ⟨e1, e2⟩ := hid_some.mp e
          refine hid_some.mpr ⟨e1, ?_⟩
          rw [upd_ne (fun z => e1 (by rw [z]; exact List.mem_cons_self))]
          exact e2
        have fU : ∀ b o, b ≠ D → H4 b = some o → (upd H4 D (.lst (acc ++ [v]))) b = some o := fun b o n e => by
          rw [upd_ne n]
          exact e
        have nH1 : ∀ b o, H1 b = some o → b ≠ D := fun b o e z => by
          rw [z, hD] at e
          cases e
        refine ⟨fun b o n e => fU b o (nH1 b o e) (b1 b o n e), ⟨b2.sub, fun a ha => ?_, fun b o n e => fU b o (fun z => ?_) (b2.frm b o n e), fun a ha => ⟨(b2.spr a ha).1, ?_⟩, fun j e he => ?_, b2.dist, b2.len, b2.o0⟩, _, upd_same, ?_⟩
        · by_cases z : a = D
          · rw [z, upd_same]
            exact fun z => nomatch z
          · rw [upd_ne z]
            exact b2.occ a ha
        · rw [z] at e
          have := S1.newB hD
          rw [e] at this
          cases this
        · obtain ⟨z1, z2, z3, e⟩ := (b2.spr a ha).2
          refine ⟨z1, z2, z3, fU a _ (fun z => ?_) e⟩
          rw [z] at ha
          exact S1.newS hD ha
        · refine (b2.slot j e he).mono hidU fun a vs ys ee ea m n q => ⟨m, fU a _ (fun z => ?_) q⟩
          -- the new list is no slot's own
          subst z
          subst ee
          have hs1 := S1.slot j (.own ys) he
          obtain ⟨a', _, e1, m1, _⟩ := hs1
          have e2 : (wipe σ (own.map (·.2)))[j]? = σ[j]? := by
            rw [wipe_get, if_neg]
            rintro ⟨h1, _⟩
            have := hw j h1
            rw [he] at this
            cases this
          rw [e2, e1] at ea
          have ea' := V.ref.inj (Option.some.inj (Option.some.inj ea))
          rw [ea'] at m1
          exact S1.newO hD m1
        · rw [tk, List.filter_append, List.filter_cons, if_pos hk, List.filter_nil, List.map_append]
          exact (b4.mono hidU).append (.cons (rv.mono hidU) .nil)
  · have e : i = xs.length := by omega
    subst e
    refine .inl ⟨by have := yy.2; rw [List.length_map] at this; exact this, ?_⟩
    rw [List.take_length] at racc
    refine q D acc H' (f1.trans fx) (hO fx S') (new_of S1 f1 hD) hacc racc
theorem en_lcF {xs : List α} {enc : α → PyData} {f : α → Bool} {g : α → PyData} (hc : X.calm = true) (hN : X.N.Nodup) (hi : IterC X tg iter es (IsL (xs.map enc))) (ok : BlkOk X.N X.env.scope scope own) (hw : ∀ i ∈ own.map (·.2), es[i]? = some .no) (hl : xs.length ≤ 100000)
    (hb : ∀ x ∈ xs, TurnC X scope tg ifs elt (own.map (·.2)) es (enc x) (f x) (Is (g x))) (hf : ∀ x, foldedSetIterable iter X.env x = pure x := by intro _; rfl) : EvalN X (.ListComp elt [⟨tg, iter, ifs, 0⟩] scope pos) es (IsL ((xs.filter f).map g)) := fun W O σ H S Q q =>
  tes_of (pe_lc hc hN pi_s ok (g := TGB X scope tg) (tt := TPB X scope ifs) (te := TEB X scope elt) (fun s H C cl fp => ⟨fun pins s1 _ _ _ u _ I r h => (h s H C cl fp).go pins s1 u I r⟩)
    (fun s H C cl fp => ⟨fun pins s1 σ1 H1 Q1 I h => by
      obtain ⟨t, ht, q1⟩ := h s H C cl fp
      exact ht.run pins s1 σ1 H1 Q1 I q1⟩) (fun s H C cl fp => ⟨fun pins s1 _ _ _ I h => (h s H C cl fp).go pins s1 I⟩) hf)
    (lc_read hi hw hl hb S fun a vs H' fx S' n m r => q a vs H' _ fx S' rfl n m r)
theorem filter_yes (xs : List α) : xs.filter (fun _ => true) = xs := List.filter_eq_self.mpr fun _ _ => rfl
theorem en_lc {xs : List α} {enc : α → PyData} {g : α → PyData} (hc : X.calm = true) (hN : X.N.Nodup) (hi : IterC X tg iter es (IsL (xs.map enc))) (ok : BlkOk X.N X.env.scope scope own) (hw : ∀ i ∈ own.map (·.2), es[i]? = some .no) (hl : xs.length ≤ 100000)
    (hb : ∀ x ∈ xs, TurnC X scope tg [] elt (own.map (·.2)) es (enc x) true (Is (g x))) (hf : ∀ x, foldedSetIterable iter X.env x = pure x := by intro _; rfl) : EvalN X (.ListComp elt [⟨tg, iter, [], 0⟩] scope pos) es (IsL (xs.map g)) := by
  have h := en_lcF (pos := pos) (f := fun _ => true) hc hN hi ok hw hl hb hf
  rw [filter_yes] at h
  exact h
end
end Ab

set_option maxHeartbeats 4000000
/-! Statements; what a def promises. -/
namespace Ab
open PySem PySem.Spec PyProof.Rows L2

structure TSr (X : Cx) (ss : List Stmt) (D : Ends) (σ : L2.St) (H : Hp) : Prop where
  go : ∀ (pins : List (Addr × Obj)) (s : Shared), Inv X pins σ H s → wpAny (model X.prog X.w) X.A (execs ss X.env) (SP X pins D) X.xe s
def TSs (X : Cx) (ss : List Stmt) : TS := fun D σ H => TSr X ss D σ H
theorem pss_s {X : Cx} {ss : List Stmt} : PSs X ss (TSs X ss) := ⟨fun pins s _ _ _ I h => h.go pins s I⟩
theorem tss_of {X : Cx} {ss : List Stmt} {t : TS} {D : Ends} {σ : L2.St} {H : Hp} (h : PSs X ss t) (q : t D σ H) : TSs X ss D σ H := ⟨fun pins s I => h.run pins s σ H D I q⟩

/-- what is wanted of a result: a datum of which P holds; if fr, a new list -/
structure RP where
  P : PyData → Prop
  fr : Bool
/-- what is told of a result -/
structure Rt (K : PySem.W.Frag) (W : Vw) (R : RP) (v : V) (H' : Hp) : Prop where
  frm : ∀ b o, W.sa ≠ some b → W.Hb b = some o → H' b = some o
  spr : ∀ a, W.sa = some a → Spr H' a
  dat : ∃ d, R.P d ∧ Rp K (hid H' W.O0) v d
  new : R.fr = true → ∃ a, v = .ref a ∧ W.Hb a = none
/-- statements: from the slots es to slots of which N holds, or a result of which R holds -/
def Exec (X : Cx) (ss : List Stmt) (es : List Sl) (N : List Sl → Prop) (R : RP) : Prop :=
  ∀ (W : Vw) (O : List Addr) (σ : L2.St) (H : Hp), StO X.K W O H σ es → ∀ D : Ends, (∀ O' σ' H' es', N es' → Trn O H O' H' → StO X.K W O' H' σ' es' → D.nx σ' H') → (∀ v H', Rt X.K W R v H' → D.rt v H') → TSs X ss D σ H
section
variable {X : Cx} {tg iter e a b ct : Expr} {es : List Sl} {pos p : Pos} {K : PySem.W.Frag} {N : List Sl → Prop} {R : RP} {rest : List Stmt}
theorem StO.rt {W : Vw} {O : List Addr} {H : Hp} {σ : L2.St} (S : StO K W O H σ es) {v : V} {d : PyData} (hd : R.P d) (r : Rp K (hid H O) v d) (nw : R.fr = true → ∃ a, v = .ref a ∧ W.Hb a = none) : Rt K W R v H := ⟨S.frm, fun a ha => (S.spr a ha).2, ⟨d, hd, r.mono (hid_mono S.sub)⟩, nw⟩
theorem x_nil (h : N es) : Exec X [] es N R := fun W O σ H S D qn _ => tss_of pss_nil (qn O σ H es h (Trn.refl O H) S)
theorem x_ret {P : PyData → Prop} (h : Eval X e es P) (hR : ∀ d, P d → R.P d) (hf : R.fr = false := by rfl) : Exec X (.Return (some e) pos :: rest) es N R := fun W O σ H S D _ qr =>
  tss_of (pss_cons (ps_ret pe_s) pss_s) (h W O σ H S _ fun v H' d f S' pd r => qr v H' (S'.rt (hR d pd) r fun z => by rw [hf] at z; cases z))
theorem x_retIs {d : PyData} (h : Eval X e es (Is d)) (hR : R.P d) (hf : R.fr = false := by rfl) : Exec X (.Return (some e) pos :: rest) es N R := x_ret h (by rintro _ rfl; exact hR) hf
theorem x_retN {P : List PyData → Prop} (h : EvalN X e es P) (hR : ∀ ds, P ds → R.P (.list ds)) : Exec X (.Return (some e) pos :: rest) es N R := fun W O σ H S D _ qr =>
  tss_of (pss_cons (ps_ret pe_s) pss_s) (h W O σ H S _ fun a vs H' ds f S' pd hn m r => qr _ H' (S'.rt (hR ds pd) (rp_new (fun z => S.occ a z hn) m r) fun _ => ⟨a, rfl, by
    cases z : W.Hb a with
    | none => rfl
    | some o =>
      by_cases hs : W.sa = some a
      · exact absurd hn (S.occ a (S.spr a hs).1)
      · rw [S.frm a o hs z] at hn
        cases hn⟩))
/-- x = e -/
theorem x_set {P : PyData → Prop} {i : Nat} {x : Str} {p' : Pos} (hN : X.N.Nodup) (hi : X.N[i]? = some x) (hx : Loc X.env.scope x) (hf : X.fn x = true ∨ X.env.scope.names.lookup x = some .local) (h : Eval X e es P) (k : ∀ d, P d → Exec X rest (es.set i (.val d)) N R)
    (hs : swapsWith e (some (.Name x p')) pos.line X.env = pure false := by rfl) : Exec X (.Assign [.Name x p'] e pos :: rest) es N R := fun W O σ H S D qn qr =>
  tss_of (pss_cons (ps_set hN hi hx pe_s hs hf) pss_s) (h W O σ H S _ fun v H' d f S' pd r => k d pd W O _ H' (S'.set i r) D (fun O' σ' H2 es' n t S2 => qn O' σ' H2 es' n ((S.trn f).trans t) S2) qr)
theorem x_setIs {d : PyData} {i : Nat} {x : Str} {p' : Pos} (hN : X.N.Nodup) (hi : X.N[i]? = some x) (hx : Loc X.env.scope x) (hf : X.fn x = true ∨ X.env.scope.names.lookup x = some .local) (h : Eval X e es (Is d)) (k : Exec X rest (es.set i (.val d)) N R)
    (hs : swapsWith e (some (.Name x p')) pos.line X.env = pure false := by rfl) : Exec X (.Assign [.Name x p'] e pos :: rest) es N R := x_set hN hi hx hf h (by rintro _ rfl; exact k) hs
/-- a target takes a datum: a, b = e -/
theorem x_tgt {P : PyData → Prop} {ix : List Nat} (h : Eval X e es P) (ht : ∀ d, P d → ∃ es', Tgt X tg ix es d es' ∧ Exec X rest es' N R)
    (hs : swapsWithSole [tg] e pos.line X.env = pure false := by rfl) (hw : swappedStores [tg] e X.env = pure none := by rfl) (h1 : (assignEach [tg] X.env).map (·.2) = [assign tg X.env] := by rfl) : Exec X (.Assign [tg] e pos :: rest) es N R := fun W O σ H S D qn qr =>
  tss_of (pss_cons (ps_asg pe_s pg_s hs hw h1) pss_s) (h W O σ H S _ fun v H' d f S' pd r => by
    obtain ⟨es', tt, kk⟩ := ht d pd
    exact tt W O σ H' v S' r _ fun σ' S2 _ => kk W O σ' H' S2 D (fun O' σ' H2 es' n t S3 => qn O' σ' H2 es' n ((S.trn f).trans t) S3) qr)
/-- x, y = a, b: plain local names -/
theorem x_par {d1 d2 : PyData} {i j : Nat} {x y : Str} {px py pt pt2 : Pos} {kt k2 : Nat} (hc : X.calm = true) (hN : X.N.Nodup) (hi : X.N[i]? = some x) (hj : X.N[j]? = some y) (hij : i ≠ j) (hx : X.env.scope.names.lookup x = some .local) (hy : X.env.scope.names.lookup y = some .local)
    (ha : EvalA X [a, b] es (IsL [d1, d2])) (k : Exec X rest ((es.set i (.val d1)).set j (.val d2)) N R) (hw : swappedStores [.Tuple [.Name x px, .Name y py] kt pt] (.Tuple [a, b] k2 pt2) X.env = pure (some [x, y]) := by rfl)
    (hs : swapsWithSole [.Tuple [.Name x px, .Name y py] kt pt] (.Tuple [a, b] k2 pt2) pos.line X.env = pure false := by rfl) : Exec X (.Assign [.Tuple [.Name x px, .Name y py] kt pt] (.Tuple [a, b] k2 pt2) pos :: rest) es N R := fun W O σ H S D qn qr =>
  tss_of (pss_cons (ps_par hc hN hi hj hij hx hy pa_s hw hs) pss_s) (ha W O σ H S _ fun vs H' ds f S' pd r => by
    have pd' : ds = [d1, d2] := pd
    subst pd'
    cases r with
    | cons r1 r =>
      cases r with
      | cons r2 r =>
        cases r
        exact ⟨_, _, rfl, k W O _ H' ((S'.set i r1).set j r2) D (fun O' σ' H2 es' n t S3 => qn O' σ' H2 es' n ((S.trn f).trans t) S3) qr⟩)

/-! ### lists of its own -/
theorem StO.setOwn {W : Vw} {O : List Addr} {H : Hp} {σ : L2.St} {i : Nat} {q : Addr} {vs : List V} {xs : List PyData} (S : StO K W O H σ es) (hq : q ∈ O) (free : ∀ (j : Nat) (ys : List PyData), es[j]? = some (.own ys) → i ≠ j → σ[j]? ≠ some (some (.ref q))) (nb : W.Hb q = none) (ns : W.sa ≠ some q) (m : H q = some (.lst vs)) (r : RpAll K (hid H O) vs xs) :
    StO K W O H (σ.set i (some (.ref q))) (es.set i (.own xs)) := by
  have atI : ∀ {e : Sl}, (es.set i (.own xs))[i]? = some e → e = .own xs ∧ i < es.length := fun {e} he => by
    by_cases hl : i < es.length
    · rw [List.getElem?_set_self hl] at he
      exact ⟨(Option.some.inj he).symm, hl⟩
    · rw [List.getElem?_eq_none (by rw [List.length_set]; omega)] at he
      cases he
  refine ⟨S.sub, S.occ, S.frm, S.spr, fun j e he => ?_, fun j k ys zs a h1 h2 h3 h4 => ?_, by rw [List.length_set, List.length_set, S.len], S.o0⟩
  · by_cases hj : i = j
    · subst hj
      obtain ⟨e1, hl⟩ := atI he
      subst e1
      exact ⟨q, vs, List.getElem?_set_self (by rw [S.len]; exact hl), hq, ns, nb, m, r⟩
    · rw [List.getElem?_set_ne hj] at he
      have z := S.slot j e he
      have es' : (σ.set i (some (V.ref q)))[j]? = σ[j]? := List.getElem?_set_ne hj
      cases e with
      | no => trivial
      | val d =>
        obtain ⟨v, e1, r1⟩ := z
        exact ⟨v, es'.trans e1, r1⟩
      | own ys =>
        obtain ⟨a, us, e1, r1⟩ := z
        exact ⟨a, us, es'.trans e1, r1⟩
      | spr =>
        obtain ⟨a, e1, r1⟩ := z
        exact ⟨a, es'.trans e1, r1⟩
      | scr ns =>
        obtain ⟨a, e1, r1⟩ := z
        exact ⟨a, es'.trans e1, r1⟩
      | dct kvs =>
        obtain ⟨a, vs, e1, r1⟩ := z
        exact ⟨a, vs, es'.trans e1, r1⟩
  · by_cases hj : i = j
    · subst hj
      obtain ⟨_, hl⟩ := atI h1
      rw [List.getElem?_set_self (by rw [S.len]; exact hl)] at h3
      have ea := V.ref.inj (Option.some.inj (Option.some.inj h3))
      subst ea
      by_cases hk : i = k
      · exact hk
      · rw [List.getElem?_set_ne hk] at h2 h4
        exact absurd h4 (free k zs h2 hk)
    · rw [List.getElem?_set_ne hj] at h1 h3
      by_cases hk : i = k
      · subst hk
        obtain ⟨_, hl⟩ := atI h2
        rw [List.getElem?_set_self (by rw [S.len]; exact hl)] at h4
        have ea := V.ref.inj (Option.some.inj (Option.some.inj h4))
        subst ea
        exact absurd h3 (free j ys h1 hj)
      · rw [List.getElem?_set_ne hk] at h2 h4
        exact S.dist j k ys zs a h1 h2 h3 h4
/-- the slots at another heap, with more (or less) that is its own -/
theorem StO.move {W : Vw} {O O' : List Addr} {H H' : Hp} {σ : L2.St} (S : StO K W O H σ es) (sub : ∀ a ∈ W.O0, a ∈ O') (occ : ∀ a ∈ O', H' a ≠ none) (frm : ∀ b o, W.sa ≠ some b → W.Hb b = some o → H' b = some o) (spr : ∀ a, W.sa = some a → a ∈ O' ∧ Spr H' a) (hh : Same (hid H O) (hid H' O'))
    (ho : ∀ (j : Nat) (a : Addr) (vs : List V) (xs : List PyData), es[j]? = some (.own xs) → σ[j]? = some (some (.ref a)) → a ∈ O → W.sa ≠ some a → H a = some (.lst vs) → a ∈ O' ∧ H' a = some (.lst vs)) : StO K W O' H' σ es :=
  ⟨sub, occ, frm, spr, fun j e he => (S.slot j e he).mono hh fun a vs xs ee ea m n q => ho j a vs xs (by rw [← ee]; exact he) ea m n q, S.dist, S.len, S.o0⟩
theorem StO.ownNew {W : Vw} {O : List Addr} {H H' : Hp} {σ : L2.St} {i : Nat} {q : Addr} {vs : List V} {xs : List PyData} (S : StO K W O H σ es) (f : Fx W H H') (S' : StO K W O H' σ es) (hn : H q = none) (m : H' q = some (.lst vs)) (r : RpAll K (hid H' (q :: O)) vs xs) : StO K W (q :: O) H' (σ.set i (some (.ref q))) (es.set i (.own xs)) := by
  have hh : Same (hid H O) (hid H' (q :: O)) := fun b o e => by
    obtain ⟨e1, e2⟩ := hid_some.mp e
    refine hid_some.mpr ⟨fun z => ?_, f b o (fun z => e1 (S.spr b z).1) e2⟩
    rcases List.mem_cons.mp z with z | z
    · rw [z, hn] at e2
      cases e2
    · exact e1 z
  have S2 : StO K W (q :: O) H' σ es := S.move (fun a ha => List.mem_cons_of_mem _ (S.sub a ha)) (fun a ha => by
    rcases List.mem_cons.mp ha with z | z
    · rw [z, m]
      exact fun z => nomatch z
    · exact S'.occ a z) S'.frm (fun a ha => ⟨List.mem_cons_of_mem _ (S.spr a ha).1, (S'.spr a ha).2⟩) hh fun j a vs xs _ _ m n q => ⟨List.mem_cons_of_mem _ m, f a _ n q⟩
  refine S2.setOwn List.mem_cons_self (fun j ys h _ e => ?_) (S.newB hn) (S.newS hn) m r
  obtain ⟨a, us, e1, m1, _⟩ := S.slot j _ h
  rw [e1] at e
  have e' := V.ref.inj (Option.some.inj (Option.some.inj e))
  rw [e'] at m1
  exact S.newO hn m1
theorem Trn.newOwn {W : Vw} {O : List Addr} {H H' : Hp} {σ : L2.St} {q : Addr} (S : StO K W O H σ es) (f : Fx W H H') (hn : H q = none) : Trn O H (q :: O) H' := ⟨fun a ha => by
  rcases List.mem_cons.mp ha with z | z
  · exact .inr (by rw [z]; exact hn)
  · exact .inl z, (S.trn f).keep⟩
/-- x = a new list, its own from then on -/
theorem x_own {P : List PyData → Prop} {i : Nat} {x : Str} {p' : Pos} (hN : X.N.Nodup) (hi : X.N[i]? = some x) (hx : Loc X.env.scope x) (hf : X.fn x = true ∨ X.env.scope.names.lookup x = some .local) (h : EvalN X e es P) (k : ∀ ds, P ds → Exec X rest (es.set i (.own ds)) N R)
    (hs : swapsWith e (some (.Name x p')) pos.line X.env = pure false := by rfl) : Exec X (.Assign [.Name x p'] e pos :: rest) es N R := fun W O σ H S D qn qr =>
  tss_of (pss_cons (ps_set hN hi hx pe_s hs hf) pss_s) (h W O σ H S _ fun q vs H' ds f S' pd hn m r => k ds pd W (q :: O) _ H' (S.ownNew f S' hn m r) D (fun O' σ' H2 es' n t S2 => qn O' σ' H2 es' n ((Trn.newOwn S f hn).trans t) S2) qr)
theorem x_ownIs {ds : List PyData} {i : Nat} {x : Str} {p' : Pos} (hN : X.N.Nodup) (hi : X.N[i]? = some x) (hx : Loc X.env.scope x) (hf : X.fn x = true ∨ X.env.scope.names.lookup x = some .local) (h : EvalN X e es (IsL ds)) (k : Exec X rest (es.set i (.own ds)) N R)
    (hs : swapsWith e (some (.Name x p')) pos.line X.env = pure false := by rfl) : Exec X (.Assign [.Name x p'] e pos :: rest) es N R := x_own hN hi hx hf h (by rintro _ rfl; exact k) hs
/-- its own list is changed no more -/
theorem x_frz {ss : List Stmt} (i : Nat) {xs : List PyData} (he : es[i]? = some (.own xs)) (k : Exec X ss (es.set i (.val (.list xs))) N R) : Exec X ss es N R := fun W O σ H S D qn qr => by
  obtain ⟨a, vs, e1, m, n, nb, e2, r⟩ := S.slot i _ he
  have hl : i < es.length := (List.getElem?_eq_some_iff.mp he).1
  have nO0 : a ∉ W.O0 := fun z => S.o0 a z nb
  have inF : ∀ b, b ∈ O → b ≠ a → b ∈ O.filter fun b => decide (b ≠ a) := fun b hb ne => List.mem_filter.mpr ⟨hb, decide_eq_true ne⟩
  have ni : a ∉ O.filter fun b => decide (b ≠ a) := fun z => of_decide_eq_true (List.mem_filter.mp z).2 rfl
  have hh : Same (hid H O) (hid H (O.filter fun b => decide (b ≠ a))) := hid_mono fun b hb => (List.mem_filter.mp hb).1
  have S2 : StO X.K W (O.filter fun b => decide (b ≠ a)) H σ (es.set i (.val (.list xs))) := by
    have nj : ∀ {j : Nat} {ys : List PyData}, (es.set i (.val (.list xs)))[j]? = some (.own ys) → i ≠ j := fun {j ys} h z => by
      subst z
      rw [List.getElem?_set_self hl] at h
      cases h
    refine ⟨fun b hb => inF b (S.sub b hb) (fun z => nO0 (by rw [← z]; exact hb)), fun b hb => S.occ b (List.mem_filter.mp hb).1, S.frm, fun b hb => ⟨inF b (S.spr b hb).1 (fun z => n (by rw [← z]; exact hb)), (S.spr b hb).2⟩, fun j e hj => ?_, fun j k ys zs b h1 h2 h3 h4 => ?_, by rw [List.length_set]; exact S.len, S.o0⟩
    · by_cases z : i = j
      · subst z
        rw [List.getElem?_set_self hl] at hj
        have hj := Option.some.inj hj
        subst hj
        exact ⟨_, e1, .lst (hid_some.mpr ⟨ni, e2⟩) (r.mono hh)⟩
      · rw [List.getElem?_set_ne z] at hj
        refine (S.slot j e hj).mono hh fun b us ys ee eb mb nb' q => ⟨inF b mb fun w => z ?_, q⟩
        subst ee w
        exact S.dist i j xs ys b he hj e1 eb
    · have n1 := nj h1
      have n2 := nj h2
      rw [List.getElem?_set_ne n1] at h1
      rw [List.getElem?_set_ne n2] at h2
      exact S.dist j k ys zs b h1 h2 h3 h4
  have t0 : Trn O H (O.filter fun b => decide (b ≠ a)) H := ⟨fun b hb => .inl (List.mem_filter.mp hb).1, fun _ _ _ h => h⟩
  exact k W _ σ H S2 D (fun O' σ' H2 es' n t S3 => qn O' σ' H2 es' n (t0.trans t) S3) qr
/-- its own list is written -/
theorem StO.wr {W : Vw} {O : List Addr} {H : Hp} {σ : L2.St} {i : Nat} {a : Addr} {us : List V} {xs ys : List PyData} (S : StO K W O H σ es) (he : es[i]? = some (.own xs)) (e1 : σ[i]? = some (some (.ref a))) (m : a ∈ O) (n : W.sa ≠ some a) (nb : W.Hb a = none) (r : RpAll K (hid H O) us ys) :
    StO K W O (upd H a (.lst us)) σ (es.set i (.own ys)) ∧ Trn O H O (upd H a (.lst us)) := by
  have hl : i < es.length := (List.getElem?_eq_some_iff.mp he).1
  have hh : Same (hid H O) (hid (upd H a (.lst us)) O) := fun b o e => by
    obtain ⟨z1, z2⟩ := hid_some.mp e
    refine hid_some.mpr ⟨z1, ?_⟩
    rw [upd_ne (fun z => z1 (by rw [z]; exact m))]
    exact z2
  have ku : ∀ b o, b ≠ a → H b = some o → upd H a (.lst us) b = some o := fun b o z e => by
    rw [upd_ne z]
    exact e
  refine ⟨⟨S.sub, fun b hb => ?_, fun b o w e => ku b o (fun z => ?_) (S.frm b o w e), fun b hb => ⟨(S.spr b hb).1, ?_⟩, fun j e hj => ?_, fun j k zs ws b h1 h2 h3 h4 => ?_, by rw [List.length_set]; exact S.len, S.o0⟩, fun _ h => .inl h, fun b o hb e => ku b o (fun z => hb (by rw [z]; exact m)) e⟩
  · by_cases z : b = a
    · rw [z, upd_same]
      exact fun z => nomatch z
    · rw [upd_ne z]
      exact S.occ b hb
  · rw [z, nb] at e
    cases e
  · obtain ⟨z1, z2, z3, e⟩ := (S.spr b hb).2
    exact ⟨z1, z2, z3, ku b _ (fun z => n (by rw [← z]; exact hb)) e⟩
  · by_cases z : i = j
    · subst z
      rw [List.getElem?_set_self hl] at hj
      have hj := Option.some.inj hj
      subst hj
      exact ⟨a, us, e1, m, n, nb, upd_same, r.mono hh⟩
    · rw [List.getElem?_set_ne z] at hj
      refine (S.slot j e hj).mono hh fun b vs zs ee eb mb nb' q => ⟨mb, ku b _ (fun w => z ?_) q⟩
      subst ee w
      exact S.dist i j xs zs b he hj e1 eb
  · have at' : ∀ {j : Nat} {zs : List PyData}, (es.set i (.own ys))[j]? = some (.own zs) → ∃ zs', es[j]? = some (.own zs') := fun {j zs} h => by
      by_cases z : i = j
      · subst z
        exact ⟨xs, he⟩
      · rw [List.getElem?_set_ne z] at h
        exact ⟨zs, h⟩
    obtain ⟨zs', h1'⟩ := at' h1
    obtain ⟨ws', h2'⟩ := at' h2
    exact S.dist j k zs' ws' b h1' h2' h3 h4
variable {i : Nat} {x : Str} {xs : List PyData}
/-- x.append(e) -/
theorem x_app {P : PyData → Prop} {apos px : Pos} (hi : es[i]? = some (.own xs)) (hN : X.N[i]? = some x) (hx : Vis X.env.scope x) (h : Eval X e es P) (hl : xs.length ≤ 100000) (k : ∀ d, P d → Exec X rest (es.set i (.own (xs ++ [d]))) N R)
    (hd : (x == ("__debug__" : Str)) = false := by decide) (hcd : (x == ("__classdict__" : Str)) = false := by decide)
    (hbm : ∀ t, PE X (.Name x px) t → ∀ ta, PA X [e] ta → PE X (.Call (.Attribute (.Name x px) "append" apos) [e] [] p) (tBM X.K "list" rAppend t ta) := by intro t h ta h2; exact pe_bm PySem.F.plainAttrs_list PySem.F.slot_list_append PySem.F.type_list_append mt_append h h2)
    (he : starEach [e] X.env = (false, eval e X.env) :: starEach [] X.env := by rfl)
    (hs : swapsWith (.Call (.Attribute (.Name x px) "append" apos) [e] [] p) none pos.line X.env = pure false := by rfl) :
    Exec X (.Expr (.Call (.Attribute (.Name x px) "append" apos) [e] [] p) pos :: rest) es N R := fun W O σ H S D qn qr => by
  obtain ⟨a, vs, e1, m, n, nb, e2, r⟩ := S.slot i _ hi
  refine tss_of (pss_cons (ps_expr (hbm _ (pe_var hN hx hd hcd) _ (pa_cons pe_s pa_nil he)) hs) pss_s) ⟨_, e1, Or.inl ⟨rfl, _, SqL.of e2⟩, h W O σ H S _ fun v H' d f S' pd rv => ?_⟩
  have e2' := f _ _ n e2
  have r' := r.mono (S.fx_hid f)
  obtain ⟨S3, t3⟩ := S'.wr (us := vs ++ [v]) (ys := xs ++ [d]) hi e1 m n nb (r'.append (.cons rv .nil))
  exact ⟨a, vs, v, rfl, rfl, e2', Nat.lt_of_le_of_lt (by rw [r.length]; exact hl) (by decide), k d pd W O σ _ S3 D (fun O' σ' H2 es' n t S4 => qn O' σ' H2 es' n (((S.trn f).trans t3).trans t) S4) qr⟩
/-- x[i] = e -/
theorem x_put {P : PyData → Prop} {j : Nat} {px ps : Pos} (hi : es[i]? = some (.own xs)) (hN : X.N[i]? = some x) (hx : Vis X.env.scope x) (h : Eval X e es P) (hj : Eval X b es (Is (.int (j : Int)))) (hl : j < xs.length) (k : ∀ d, P d → Exec X rest (es.set i (.own (xs.set j d))) N R)
    (hd : (x == ("__debug__" : Str)) = false := by decide) (hcd : (x == ("__classdict__" : Str)) = false := by decide)
    (ha : ∀ v, assign (.Subscript (.Name x px) b ps) X.env v = (do
      let ov ← holding [v] (eval (.Name x px) X.env)
      let iv ← holding [v, ov] (eval b X.env)
      standAt ps
      holding [v, ov, iv] (setItem ov iv v)
      release [v, ov, iv] []) := by intro _; rfl)
    (hs : swapsWithSole [.Subscript (.Name x px) b ps] e pos.line X.env = pure false := by rfl) (hw : swappedStores [.Subscript (.Name x px) b ps] e X.env = pure none := by rfl) (h1 : (assignEach [.Subscript (.Name x px) b ps] X.env).map (·.2) = [assign (.Subscript (.Name x px) b ps) X.env] := by rfl) :
    Exec X (.Assign [.Subscript (.Name x px) b ps] e pos :: rest) es N R := fun W O σ H S D qn qr =>
  tss_of (pss_cons (ps_asg pe_s (pg_sub (pe_var hN hx hd hcd) pe_s set_list ha) hs hw h1) pss_s) (h W O σ H S _ fun v H' d f S' pd rv => by
    obtain ⟨a, vs, e1, m, n, nb, e2, r⟩ := S'.slot i _ hi
    refine ⟨_, e1, hj W O σ H' S' _ fun y H2 d2 f2 S2 p2 r2 => ?_⟩
    have p2' : d2 = .int (j : Int) := p2
    subst p2'
    cases r2
    have e2' := f2 _ _ n e2
    have r' := r.mono (S'.fx_hid f2)
    have rv' := rv.mono (S'.fx_hid f2)
    obtain ⟨S3, t3⟩ := S2.wr (us := vs.set j v) (ys := xs.set j d) hi e1 m n nb (RpAll.set rv' j r')
    refine ⟨a, vs, (j : Int), j, rfl, rfl, e2', ?_, k d pd W O σ _ S3 D (fun O' σ' H3 es' n t S4 => qn O' σ' H3 es' n (((S.trn (f.trans f2)).trans t3).trans t) S4) qr⟩
    unfold ixN
    rw [r.length, if_pos (by omega), if_pos (by omega), Int.toNat_natCast])
/-- x[i], x[j] = e -/
theorem x_put2 {d1 d2 : PyData} {j1 j2 : Nat} {b1 b2 : Expr} {px1 px2 ps1 ps2 pt : Pos} {kk : Nat} (hc : X.calm = true) (hi : es[i]? = some (.own xs)) (hN : X.N[i]? = some x) (hx : Vis X.env.scope x) (h : Eval X e es (Is (.tuple [d1, d2]))) (hj1 : Eval X b1 es (Is (.int (j1 : Int)))) (hj2 : Eval X b2 (es.set i (.own (xs.set j1 d1))) (Is (.int (j2 : Int)))) (hl1 : j1 < xs.length) (hl2 : j2 < xs.length)
    (k : Exec X rest ((es.set i (.own (xs.set j1 d1))).set i (.own ((xs.set j1 d1).set j2 d2))) N R)
    (hd : (x == ("__debug__" : Str)) = false := by decide) (hcd : (x == ("__classdict__" : Str)) = false := by decide)
    (ha1 : ∀ v, assign (.Subscript (.Name x px1) b1 ps1) X.env v = (do
      let ov ← holding [v] (eval (.Name x px1) X.env)
      let iv ← holding [v, ov] (eval b1 X.env)
      standAt ps1
      holding [v, ov, iv] (setItem ov iv v)
      release [v, ov, iv] []) := by intro _; rfl)
    (ha2 : ∀ v, assign (.Subscript (.Name x px2) b2 ps2) X.env v = (do
      let ov ← holding [v] (eval (.Name x px2) X.env)
      let iv ← holding [v, ov] (eval b2 X.env)
      standAt ps2
      holding [v, ov, iv] (setItem ov iv v)
      release [v, ov, iv] []) := by intro _; rfl)
    (hp1 : (assignEach [.Subscript (.Name x px1) b1 ps1, .Subscript (.Name x px2) b2 ps2] X.env).map (·.2) = assign (.Subscript (.Name x px1) b1 ps1) X.env :: (assignEach [.Subscript (.Name x px2) b2 ps2] X.env).map (·.2) := by rfl)
    (hp2 : (assignEach [.Subscript (.Name x px2) b2 ps2] X.env).map (·.2) = assign (.Subscript (.Name x px2) b2 ps2) X.env :: (assignEach [] X.env).map (·.2) := by rfl)
    (hn : (assignEach [.Subscript (.Name x px1) b1 ps1, .Subscript (.Name x px2) b2 ps2] X.env).length = 2 := by rfl) (hst : (assignEach [.Subscript (.Name x px1) b1 ps1, .Subscript (.Name x px2) b2 ps2] X.env).findIdx? (·.1) = none := by rfl)
    (hs : swapsWithSole [.Tuple [.Subscript (.Name x px1) b1 ps1, .Subscript (.Name x px2) b2 ps2] kk pt] e pos.line X.env = pure false := by rfl) (hw : swappedStores [.Tuple [.Subscript (.Name x px1) b1 ps1, .Subscript (.Name x px2) b2 ps2] kk pt] e X.env = pure none := by rfl)
    (h1 : (assignEach [.Tuple [.Subscript (.Name x px1) b1 ps1, .Subscript (.Name x px2) b2 ps2] kk pt] X.env).map (·.2) = [assign (.Tuple [.Subscript (.Name x px1) b1 ps1, .Subscript (.Name x px2) b2 ps2] kk pt) X.env] := by rfl) :
    Exec X (.Assign [.Tuple [.Subscript (.Name x px1) b1 ps1, .Subscript (.Name x px2) b2 ps2] kk pt] e pos :: rest) es N R := fun W O σ H S D qn qr =>
  tss_of (pss_cons (ps_asg pe_s (pg_tup hc (pgs_cons (pg_sub (pe_var hN hx hd hcd) pe_s set_list ha1) (pgs_cons (pg_sub (pe_var hN hx hd hcd) pe_s set_list ha2) pgs_nil hp2) hp1) hn hst) hs hw h1) pss_s) (h W O σ H S _ fun v H' d f S' pd rv => by
    have pd' : d = .tuple [d1, d2] := pd
    subst pd'
    cases rv with
    | tup hq ra =>
      cases ra with
      | @cons v1 _ _ _ r1 ra =>
        cases ra with
        | @cons v2 _ _ _ r2 ra =>
          cases ra
          refine ⟨_, _, rfl, sqt_mono (hid_sub _ _) hq, rfl, _, _, rfl, ?_⟩
          obtain ⟨a, vs, e1, m, n, nb, e2, r⟩ := S'.slot i _ hi
          refine ⟨_, e1, hj1 W O σ H' S' _ fun y H2 dd f2 S2 p2 ry => ?_⟩
          have p2' : dd = .int (j1 : Int) := p2
          subst p2'
          cases ry
          have r' := r.mono (S'.fx_hid f2)
          obtain ⟨S3, t3⟩ := S2.wr (us := vs.set j1 v1) (ys := xs.set j1 d1) hi e1 m n nb (RpAll.set (r1.mono (S'.fx_hid f2)) j1 r')
          refine ⟨a, vs, (j1 : Int), j1, rfl, rfl, f2 _ _ n e2, ?_, ?_⟩
          · unfold ixN
            rw [r.length, if_pos (by omega), if_pos (by omega), Int.toNat_natCast]
          have hi' : (es.set i (.own (xs.set j1 d1)))[i]? = some (.own (xs.set j1 d1)) := List.getElem?_set_self (List.getElem?_eq_some_iff.mp hi).1
          refine ⟨_, _, rfl, _, e1, hj2 W O σ _ S3 _ fun y H4 dd f4 S4 p4 ry => ?_⟩
          have p4' : dd = .int (j2 : Int) := p4
          subst p4'
          cases ry
          obtain ⟨a', us, e1', m', n', nb', e3, r3⟩ := S4.slot i _ hi'
          have ea : a = a' := V.ref.inj (Option.some.inj (Option.some.inj (e1.symm.trans e1')))
          subst ea
          have eu : us = vs.set j1 v1 := by
            have := f4 _ _ n (upd_same (H := H2) (a := a) (o := .lst (vs.set j1 v1)))
            rw [e3] at this
            exact HO.lst.inj (Option.some.inj this)
          obtain ⟨S5, t5⟩ := S4.wr (us := us.set j2 v2) (ys := (xs.set j1 d1).set j2 d2) hi' e1 m n nb (RpAll.set (((r2.mono (S'.fx_hid f2)).mono t3.hid).mono (S3.fx_hid f4)) j2 r3)
          refine ⟨a, us, (j2 : Int), j2, rfl, rfl, e3, ?_, rfl, ?_⟩
          · unfold ixN
            rw [r3.length, List.length_set, if_pos (by omega), if_pos (by omega), Int.toNat_natCast]
          exact k W O σ _ S5 D (fun O' σ' H6 es' n t S6 => qn O' σ' H6 es' n ((((S.trn (f.trans f2)).trans t3).trans ((S3.trn f4).trans t5)).trans t) S6) qr)

/-! ### loops, ifs -/
theorem x_if {a b : List Stmt} {Pc : Bool → Prop} {N1 : List Sl → Prop} (hc : EvalT X ct es Pc) (h1 : Pc true → Exec X a es N1 R) (h2 : Pc false → Exec X b es N1 R) (k : ∀ es1, N1 es1 → Exec X rest es1 N R) : Exec X (.If ct a b pos :: rest) es N R := fun W O σ H S D qn qr =>
  tss_of (pss_cons (ps_if pt_s pss_s pss_s) pss_s) (hc W O σ H S _ fun k' H1 f S1 pk => by
    cases k' with
    | true => exact iteT (h1 pk W O σ H1 S1 _ (fun O' σ' H' es1 n t S2 => k es1 n W O' σ' H' S2 D (fun O2 σ2 H2 es2 n2 t2 S3 => qn O2 σ2 H2 es2 n2 (((S.trn f).trans t).trans t2) S3) qr) qr)
    | false => exact iteF (h2 pk W O σ H1 S1 _ (fun O' σ' H' es1 n t S2 => k es1 n W O' σ' H' S2 D (fun O2 σ2 H2 es2 n2 t2 S3 => qn O2 σ2 H2 es2 n2 (((S.trn f).trans t).trans t2) S3) qr) qr))
theorem x_for {body : List Stmt} {PI : List PyData → Prop} (hp : PassesOwn (model X.prog X.w) X.A X.env X.xe) (hc : X.calm = true) (hi : IterL X tg iter es PI) (I : List PyData → Nat → List Sl → Prop)
    (h0 : ∀ items, PI items → I items 0 es) (hb : ∀ items, PI items → ∀ (i : Nat) (d : PyData) (es1 : List Sl), items[i]? = some d → I items i es1 → ∃ ix es2, Tgt X tg ix es1 d es2 ∧ Exec X body es2 (I items (i + 1)) R) (k : ∀ items, PI items → ∀ es1, I items items.length es1 → Exec X rest es1 N R)
    (hs : ∀ x, foldedSetIterable iter X.env x = pure x := by intro _; rfl) : Exec X (.For tg iter body [] pos :: rest) es N R := fun W O σ H S D qn qr =>
  tss_of (pss_cons (ps_for hp hc pi_s pg_s pss_s hs) pss_s) (hi W O σ H S _ fun J H1 items f1 S1 p1 y => by
    refine ⟨fun i m σ' H' => m = items.length - i ∧ i ≤ items.length ∧ ∃ O' es', I items i es' ∧ Trn O H1 O' H' ∧ StO X.K W O' H' σ' es', ⟨items.length, rfl, Nat.zero_le _, O, es, h0 items p1, Trn.refl O H1, S1⟩, ?_⟩
    rintro i m σ' H' ⟨rfl, hle, O', es', hI, t, S'⟩
    have yy := y O' H' t S'.occ
    by_cases hlt : i < items.length
    · have hd : items[i]? = some items[i] := List.getElem?_eq_getElem hlt
      obtain ⟨go, yld⟩ := yy.1 i _ hd
      obtain ⟨ix, es2, tt, bb⟩ := hb items p1 i _ es' hd hI
      refine .inr ⟨go, fun σ2 H2 => ∃ O2 es3, I items (i + 1) es3 ∧ Trn O H1 O2 H2 ∧ StO X.K W O2 H2 σ2 es3, fun σ2 H2 ⟨O2, es3, a1, a2, a3⟩ => ⟨items.length - (i + 1), by omega, rfl, hlt, O2, es3, a1, a2, a3⟩, fun x H2 hy => ?_⟩
      obtain ⟨sm, rx⟩ := yld x H2 hy
      have S2 := S'.same sm
      refine tt W O' σ' H2 x S2 rx _ fun σ3 S3 _ => ?_
      exact bb W O' σ3 H2 S3 _ (fun O4 σ4 H4 es4 n4 t4 S4 => ⟨O4, es4, n4, (t.trans (S'.trn (Same.fx sm))).trans t4, S4⟩) qr
    · have e : i = items.length := by omega
      subst e
      exact .inl ⟨yy.2, k items p1 es' hI W O' σ' H' S' D (fun O2 σ2 H2 es2 n2 t2 S3 => qn O2 σ2 H2 es2 n2 (((S.trn f1).trans t).trans t2) S3) qr⟩)
theorem x_while {body : List Stmt} (hp : PassesOwn (model X.prog X.w) X.A X.env X.xe) (I : Nat → List Sl → Prop) (m0 : Nat) (h0 : I m0 es)
    (hs : ∀ m es1, I m es1 → ∃ b, EvalT X ct es1 (IsB b) ∧ (b = true → Exec X body es1 (fun es2 => ∃ m', m' < m ∧ I m' es2) R) ∧ (b = false → Exec X rest es1 N R)) : Exec X (.While ct body [] pos :: rest) es N R := fun W O σ H S D qn qr =>
  tss_of (pss_cons (ps_while hp pt_s pss_s) pss_s) (by
    refine ⟨fun m σ' H' => ∃ O' es', I m es' ∧ Trn O H O' H' ∧ StO X.K W O' H' σ' es', ⟨m0, O, es, h0, Trn.refl O H, S⟩, ?_⟩
    rintro m σ' H' ⟨O', es', hI, t, S'⟩
    obtain ⟨b, hc, hT, hF⟩ := hs m es' hI
    refine hc W O' σ' H' S' _ fun k H1 f1 S1 pk => ?_
    have pk' : k = b := pk
    subst pk'
    cases k with
    | true =>
      refine iteT ⟨fun σ2 H2 => ∃ m', m' < m ∧ ∃ O2 es3, I m' es3 ∧ Trn O H O2 H2 ∧ StO X.K W O2 H2 σ2 es3, fun _ _ h => h, ?_⟩
      exact hT rfl W O' σ' H1 S1 _ (fun O4 σ4 H4 es4 ⟨m', l, n4⟩ t4 S4 => ⟨m', l, O4, es4, n4, (t.trans (S'.trn f1)).trans t4, S4⟩) qr
    | false => exact iteF (hF rfl W O' σ' H1 S1 D (fun O2 σ2 H2 es2 n2 t2 S3 => qn O2 σ2 H2 es2 n2 ((t.trans (S'.trn f1)).trans t2) S3) qr))
end

/-! ### defs -/
def entry (n : Nat) (ds : List PyData) : List Sl := ds.map Sl.val ++ List.replicate (n - ds.length) Sl.no
def entryS (n : Nat) (ds : List PyData) : List Sl := Sl.spr :: (ds.map Sl.val ++ List.replicate (n - (ds.length + 1)) Sl.no)
theorem entry_get {n : Nat} {ds : List PyData} {i : Nat} {e : Sl} (h : (entry n ds)[i]? = some e) : (∃ d, ds[i]? = some d ∧ e = .val d) ∨ e = .no := by
  unfold entry at h
  by_cases hi : i < ds.length
  · rw [List.getElem?_append_left (by simpa using hi), List.getElem?_map, List.getElem?_eq_getElem hi] at h
    exact .inl ⟨_, List.getElem?_eq_getElem hi, (Option.some.inj h).symm⟩
  · rw [List.getElem?_append_right (by simpa using hi), List.getElem?_replicate] at h
    split at h
    · exact .inr (Option.some.inj h).symm
    · cases h
theorem start_get {N : List Str} {vs : List V} {i : Nat} {v : V} (h : vs[i]? = some v) : (start N vs)[i]? = some (some v) := by
  have hi : i < vs.length := (List.getElem?_eq_some_iff.mp h).1
  unfold L2.start
  rw [List.getElem?_append_left (by simpa using hi), List.getElem?_map, h]
  rfl
section
variable {P : Program} {w : World} {K : PySem.W.Frag} {mg : Str → Option Value} {base : Heap}
theorem st_pure {N : List Str} {vs : List V} {ds : List PyData} {O : List Addr} {H : Hp} (oc : ∀ a ∈ O, H a ≠ none) (r : RpAll K (hid H O) vs ds) : StO K ⟨H, O, none⟩ O H (start N vs) (entry N.length ds) where
  sub := fun _ h => h
  occ := oc
  frm := fun _ _ _ h => h
  spr := fun _ h => nomatch h
  slot := fun i e he => by
    rcases entry_get he with ⟨d, hd, rfl⟩ | rfl
    · obtain ⟨v, hv, rv⟩ := r.get hd
      exact ⟨v, start_get hv, rv⟩
    · trivial
  dist := fun i j xs ys a h1 h2 h3 h4 => by
    rcases entry_get h1 with ⟨d, _, e⟩ | e <;> cases e
  len := by
    unfold L2.start entry
    rw [List.length_append, List.length_append, List.length_map, List.length_map, List.length_replicate, List.length_replicate, r.length]
  o0 := oc
theorem st_spr {N : List Str} {a : Addr} {vs : List V} {ds : List PyData} {O : List Addr} {H : Hp} (oc : ∀ a ∈ O, H a ≠ none) (ha : a ∈ O) (sp : Spr H a) (r : RpAll K (hid H O) vs ds) : StO K ⟨H, O, some a⟩ O H (start N (.ref a :: vs)) (entryS N.length ds) where
  sub := fun _ h => h
  occ := oc
  frm := fun _ _ _ h => h
  spr := fun b h => by
    have e : a = b := Option.some.inj h
    subst e
    exact ⟨ha, sp⟩
  slot := fun i e he => by
    cases i with
    | zero =>
      have e' : Sl.spr = e := Option.some.inj he
      subst e'
      exact ⟨a, start_get rfl, rfl⟩
    | succ i =>
      have he' : (entry (N.length - 1) ds)[i]? = some e := by
        unfold entry
        have e1 : N.length - 1 - ds.length = N.length - (ds.length + 1) := by omega
        rw [e1]
        exact he
      rcases entry_get he' with ⟨d, hd, rfl⟩ | rfl
      · obtain ⟨v, hv, rv⟩ := r.get hd
        exact ⟨v, start_get (i := i + 1) hv, rv⟩
      · trivial
  dist := fun i j xs ys a h1 h2 h3 h4 => by
    cases i with
    | zero =>
      have e' := Option.some.inj h1
      cases e'
    | succ i =>
      have he' : (entry (N.length - 1) ds)[i]? = some (.own xs) := by
        unfold entry
        have e1 : N.length - 1 - ds.length = N.length - (ds.length + 1) := by omega
        rw [e1]
        exact h1
      rcases entry_get he' with ⟨d, _, e⟩ | e <;> cases e
  len := by
    unfold L2.start entryS
    simp only [List.length_append, List.length_cons, List.length_map, List.length_replicate, r.length]
    omega
  o0 := oc
/-- THE RULE for a def over data -/
theorem fn_pure {x qual : Str} {st : Stmt} {f : Addr} {fd : FuncData} {N ps : List Str} {k : Nat} {R : List PyData → (PyData → Prop) → Prop} (F : Fun K x qual st f fd) (S : FnScope N ps (defScope st)) (hl : ∀ ds P, R ds P → ds.length = ps.length)
    (hb : ∀ (cdv : Value) (A : Around) (outer : List Env) (s : Shared) (H : Hp) (E : XK), Room k (A.deeper (envOfC qual (defScope st) s.heap.objs.size f cdv)) → ∀ ds PP, R ds PP → Exec (cxOf CX0 P w K mg base N qual (defScope st) f cdv A outer s H E).nox (defBody st) (entry N.length ds) (fun _ => PP .none) ⟨PP, false⟩) :
    FnOk P w K mg base CX0 (k + 1) f fd ps (spP K R) := by
  refine F.ok S (fun vs H Q E h => ?_) (fun cdv A outer s H vs Q E hr h => ?_)
  · obtain ⟨O, ds, PP, _, r, hR, _⟩ := h
    rw [r.length]
    exact hl ds PP hR
  · obtain ⟨O, ds, PP, oc, r, hR, q⟩ := h
    refine ⟨_, pss_s, hb cdv A outer s H E hr ds PP hR ⟨H, O, none⟩ O (start N vs) H (st_pure oc r) _ (fun O' σ' H' es' n t S' => ?_) fun v H' rt => ?_⟩
    · exact q _ H' .none (fun b o e => S'.frm b o (fun z => nomatch z) e) n .non
    · obtain ⟨d, hd, rd⟩ := rt.dat
      exact q v H' d (fun b o e => rt.frm b o (fun z => nomatch z) e) hd rd
theorem fn_spr {x qual : Str} {st : Stmt} {f : Addr} {fd : FuncData} {N ps : List Str} {k : Nat} {R : List PyData → (PyData → Prop) → Prop} (F : Fun K x qual st f fd) (S : FnScope N ps (defScope st)) (hl : ∀ ds P, R ds P → ds.length + 1 = ps.length)
    (hb : ∀ (cdv : Value) (A : Around) (outer : List Env) (s : Shared) (H : Hp) (E : XK), Room k (A.deeper (envOfC qual (defScope st) s.heap.objs.size f cdv)) → ∀ ds PP, R ds PP → Exec (cxOf CX0 P w K mg base N qual (defScope st) f cdv A outer s H E).nox (defBody st) (entryS N.length ds) (fun _ => PP .none) ⟨PP, false⟩) :
    FnOk P w K mg base CX0 (k + 1) f fd ps (spS K R) := by
  refine F.ok S (fun vs H Q E h => ?_) (fun cdv A outer s H vs Q E hr h => ?_)
  · obtain ⟨O, a, us, ds, PP, rfl, _, _, _, r, hR, _⟩ := h
    rw [List.length_cons, r.length]
    exact hl ds PP hR
  · obtain ⟨O, a, us, ds, PP, rfl, ha, sp, oc, r, hR, q⟩ := h
    refine ⟨_, pss_s, hb cdv A outer s H E hr ds PP hR ⟨H, O, some a⟩ O _ H (st_spr oc ha sp r) _ (fun O' σ' H' es' n t S' => ?_) fun v H' rt => ?_⟩
    · exact q _ H' .none (fun b o ne e => S'.frm b o (fun z => ne (Option.some.inj z).symm) e) (S'.spr a rfl).2 n .non
    · obtain ⟨d, hd, rd⟩ := rt.dat
      exact q v H' d (fun b o ne e => rt.frm b o (fun z => ne (Option.some.inj z).symm) e) (rt.spr a rfl) hd rd
end
end Ab

set_option maxHeartbeats 4000000
/-! A tuple times a number. -/
namespace Ab
open PySem PySem.Spec PyProof.Rows L2
open AutoSeq1 (wpAny_loadPart')
theorem tuple_mul1 (l : Addr) (items : Array Value) (n : Nat) (dd : Option Addr) (sl : Array (Option Value)) (u : Tok) :
    Meets (Builtin.«tuple.__mul__» ⟨[.ref l, .int 1 u], []⟩) (fun _ R s => s.heap.get? l = some { cls := .type "tuple", dict := dd, data := .seq items n, slots := sl } ∧ R (.ok (.ret (Value.ref l))) s) :=
  .of_wp fun prog w A R s h => by
    obtain ⟨hp, g, d, tk, os⟩ := s
    obtain ⟨hl, h⟩ := h
    have f1 := AutoSeq1.idx_int
    have c0 : (decide ((1 : Int) < -(2 ^ 63)) || decide ((1 : Int) ≥ 2 ^ 63)) = false := by decide
    have c1 : (items.isEmpty || (1 : Int) == 1) = true := by simp
    wp_walk using wpAny_loadPart' hl
    repeat (first
      | (refine wpAny_ite_false (decide_eq_false (by rw [c0]; exact Bool.false_ne_true)) ?_; wp_walk using wpAny_loadPart' hl)
      | (refine wpAny_ite_true (decide_eq_true c1) ?_; wp_walk using wpAny_loadPart' hl))
    exact ⟨_, rfl, h⟩
section
variable {X : Cx} {a b : Expr} {es : List Sl} {pos : Pos}
def rRepO (K : PySem.W.Frag) : R2 := fun x y H Q => ∃ l xs, x = .ref l ∧ y = .int 1 ∧ SqT K H l xs ∧ Q (.ref l) H
theorem op_rep1 : OpR X (binaryOp .Mult) (rRepO X.K) := by
  intro pins s σ H x y v u Q I rx ry h
  obtain ⟨l, xs, rfl, rfl, hT, q⟩ := h
  cases rx
  obtain ⟨t, rfl⟩ := ry
  obtain ⟨its, r, ⟨⟨cls, dd, data, sl⟩, ho, hc, n, hd⟩, hs⟩ := I.tuple hT
  simp only at hc hd
  subst hc hd
  exact wpAny_binaryOp_repeat_ref (T := "tuple") (U := "int") (by decide) ⟨_, ho, rfl⟩ (fun s' => typeIs_int s' 1 t) noFill_tuple_mul F.fills_int_mul F.slot_int_rmul repeat_tuple F.slot_int_index.lookup
    (call_meets F.slot_int_rmul (typeIs_int s 1 t) F.entry_int_rmul (F.args_int_rmul_2 _ _) (int_rmul_tuple 1 t l its.toArray n dd sl)
      ⟨ho, rfl, ⟨_, ho, rfl⟩, call_meets F.slot_tuple_mul ⟨_, ho, rfl⟩ F.entry_tuple_mul (F.args_tuple_mul_2 _ _) (tuple_mul1 l its.toArray n dd sl t) ⟨ho, ⟨.ref l, H, I, rfl, q⟩⟩⟩)
theorem opd_repT {K : PySem.W.Frag} {d : PyData} {n : Nat} (h1 : 1 ≤ n) (h2 : n ≤ 1000) : OpD K (fun x y H Q => rRepO K x y H Q ∨ rRepT K x y H Q) (.tuple [d]) (.int (n : Int)) (Is (.tuple (List.replicate n d))) := fun O x y H oc r1 r2 Q q => by
  cases r1 with
  | tup hs ra =>
    cases r2
    by_cases h : n = 1
    · subst h
      exact .inl ⟨_, _, rfl, rfl, sqt_mono (hid_sub _ _) hs, q _ H _ (Same.refl H) rfl (.tup hs ra)⟩
    · refine .inr ⟨_, (n : Int), _, rfl, rfl, sqt_mono (hid_sub _ _) hs, fun e => ?_, by omega, by omega, by rw [ra.length]; exact Nat.le_of_ble_eq_true rfl, fun p hp => ?_⟩
      · rw [e] at ra
        cases ra
      · rw [Int.toNat_natCast]
        have e1 : (List.replicate n [d]).flatten = List.replicate n d := List.flatten_replicate_singleton
        have rr := ra.rep n
        rw [e1] at rr
        exact q _ _ _ (same_new hp) rfl (.tup (SqT.of (hid_some.mpr ⟨not_occ oc hp, upd_same⟩)) (rr.mono (hid_ext O (same_new hp))))
theorem ev_repT {d : PyData} {n : Nat} (ha : Eval X a es (Is (.tuple [d]))) (hb : Eval X b es (Is (.int (n : Int)))) (h1 : 1 ≤ n) (h2 : n ≤ 1000) : Eval X (.BinOp a .Mult b pos) es (Is (.tuple (List.replicate n d))) :=
  ev_op (op_rep1.or op_repT) ha hb (by rintro _ _ rfl rfl; exact opd_repT h1 h2)
theorem opd_catT {K : PySem.W.Frag} {xs ys : List PyData} (hl : xs.length + ys.length ≤ 1000) : OpD K (rCatA K) (.tuple xs) (.tuple ys) (Is (.tuple (xs ++ ys))) := fun O x y H oc r1 r2 Q q => by
  cases r1 with
  | tup hs ra =>
    cases r2 with
    | tup hs2 ra2 =>
      refine ⟨_, _, _, _, rfl, rfl, sqt_mono (hid_sub _ _) hs, sqt_mono (hid_sub _ _) hs2, by rw [ra.length, ra2.length]; exact Nat.le_trans hl (by decide), fun e => ?_, fun _ e => ?_, fun _ _ p hp => ?_⟩
      · have := ra.nil_iff.mpr e
        subst this
        exact q _ H _ (Same.refl H) rfl (.tup hs2 ra2)
      · have := ra2.nil_iff.mpr e
        subst this
        rw [List.append_nil] at q
        exact q _ H _ (Same.refl H) rfl (.tup hs ra)
      · exact q _ _ _ (same_new hp) rfl (.tup (SqT.of (hid_some.mpr ⟨not_occ oc hp, upd_same⟩)) ((ra.append ra2).mono (hid_ext O (same_new hp))))
theorem ev_catT {xs ys : List PyData} (ha : Eval X a es (Is (.tuple xs))) (hb : Eval X b es (Is (.tuple ys))) (hl : xs.length + ys.length ≤ 1000) : Eval X (.BinOp a .Add b pos) es (Is (.tuple (xs ++ ys))) :=
  ev_op op_catA ha hb (by rintro _ _ rfl rfl; exact opd_catT hl)
end
end Ab

set_option maxHeartbeats 4000000
/-! The text by its places: printed by gen0.py. -/
namespace Dh
open PySem PySem.Spec PyProof.Rows L2 Ab
def topS (i : Nat) : Stmt := PySem.Challenge.pw_deedhouses_k10_whole_best_beside_all_cho.main.body.getD i (.Pass ⟨0, 0, 0, 0⟩)
abbrev s_is_whole : Stmt := topS 2
abbrev n_is_whole : List Str := ["value"]
theorem c_is_whole : FnScope n_is_whole ["value"] (defScope s_is_whole) := ⟨rfl, rfl, rfl, by decide +kernel, rfl, by decide +kernel, by decide +kernel⟩
abbrev s_is_between : Stmt := topS 3
abbrev n_is_between : List Str := ["value", "low", "high"]
theorem c_is_between : FnScope n_is_between ["value", "low", "high"] (defScope s_is_between) := ⟨rfl, rfl, rfl, by decide +kernel, rfl, by decide +kernel, by decide +kernel⟩
abbrev s_is_tuple_of : Stmt := topS 4
abbrev n_is_tuple_of : List Str := ["value", "many"]
theorem c_is_tuple_of : FnScope n_is_tuple_of ["value", "many"] (defScope s_is_tuple_of) := ⟨rfl, rfl, rfl, by decide +kernel, rfl, by decide +kernel, by decide +kernel⟩
abbrev s_is_ratio : Stmt := topS 8
abbrev n_is_ratio : List Str := ["value"]
theorem c_is_ratio : FnScope n_is_ratio ["value"] (defScope s_is_ratio) := ⟨rfl, rfl, rfl, by decide +kernel, rfl, by decide +kernel, by decide +kernel⟩
abbrev s_is_row : Stmt := topS 9
abbrev n_is_row : List Str := ["value", "many", "each"]
theorem c_is_row : FnScope n_is_row ["value", "many"] (defScope s_is_row) := ⟨rfl, rfl, rfl, by decide +kernel, rfl, by decide +kernel, by decide +kernel⟩
abbrev s_ratio : Stmt := topS 10
abbrev n_ratio : List Str := ["top", "low", "part"]
theorem c_ratio : FnScope n_ratio ["top", "low"] (defScope s_ratio) := ⟨rfl, rfl, rfl, by decide +kernel, rfl, by decide +kernel, by decide +kernel⟩
abbrev s_plus : Stmt := topS 11
abbrev n_plus : List Str := ["one", "two"]
theorem c_plus : FnScope n_plus ["one", "two"] (defScope s_plus) := ⟨rfl, rfl, rfl, by decide +kernel, rfl, by decide +kernel, by decide +kernel⟩
abbrev s_minus : Stmt := topS 12
abbrev n_minus : List Str := ["one", "two"]
theorem c_minus : FnScope n_minus ["one", "two"] (defScope s_minus) := ⟨rfl, rfl, rfl, by decide +kernel, rfl, by decide +kernel, by decide +kernel⟩
abbrev s_times : Stmt := topS 13
abbrev n_times : List Str := ["one", "two"]
theorem c_times : FnScope n_times ["one", "two"] (defScope s_times) := ⟨rfl, rfl, rfl, by decide +kernel, rfl, by decide +kernel, by decide +kernel⟩
abbrev s_over : Stmt := topS 14
abbrev n_over : List Str := ["one", "two"]
theorem c_over : FnScope n_over ["one", "two"] (defScope s_over) := ⟨rfl, rfl, rfl, by decide +kernel, rfl, by decide +kernel, by decide +kernel⟩
abbrev s_is_less : Stmt := topS 15
abbrev n_is_less : List Str := ["one", "two"]
theorem c_is_less : FnScope n_is_less ["one", "two"] (defScope s_is_less) := ⟨rfl, rfl, rfl, by decide +kernel, rfl, by decide +kernel, by decide +kernel⟩
abbrev s_total : Stmt := topS 16
abbrev n_total : List Str := ["fractions", "found", "each"]
theorem c_total : FnScope n_total ["fractions"] (defScope s_total) := ⟨rfl, rfl, rfl, by decide +kernel, rfl, by decide +kernel, by decide +kernel⟩
abbrev s_dot : Stmt := topS 17
abbrev n_dot : List Str := ["one", "two", "here", "there"]
theorem c_dot : FnScope n_dot ["one", "two"] (defScope s_dot) := ⟨rfl, rfl, rfl, by decide +kernel, rfl, by decide +kernel, by decide +kernel⟩
abbrev s_scaled : Stmt := topS 18
abbrev n_scaled : List Str := ["row", "number", "each"]
theorem c_scaled : FnScope n_scaled ["row", "number"] (defScope s_scaled) := ⟨rfl, rfl, rfl, by decide +kernel, rfl, by decide +kernel, by decide +kernel⟩
abbrev s_joined : Stmt := topS 19
abbrev n_joined : List Str := ["one", "two", "here", "there"]
theorem c_joined : FnScope n_joined ["one", "two"] (defScope s_joined) := ⟨rfl, rfl, rfl, by decide +kernel, rfl, by decide +kernel, by decide +kernel⟩
abbrev s_noughts : Stmt := topS 20
abbrev n_noughts : List Str := ["many"]
theorem c_noughts : FnScope n_noughts ["many"] (defScope s_noughts) := ⟨rfl, rfl, rfl, by decide +kernel, rfl, by decide +kernel, by decide +kernel⟩
abbrev s_mean : Stmt := topS 21
abbrev n_mean : List Str := ["pairs", "many", "found", "number", "row"]
theorem c_mean : FnScope n_mean ["pairs", "many"] (defScope s_mean) := ⟨rfl, rfl, rfl, by decide +kernel, rfl, by decide +kernel, by decide +kernel⟩
abbrev s_plain_odds : Stmt := topS 23
abbrev n_plain_odds : List Str := ["deed", "many", "at"]
theorem c_plain_odds : FnScope n_plain_odds ["deed", "many"] (defScope s_plain_odds) := ⟨rfl, rfl, rfl, by decide +kernel, rfl, by decide +kernel, by decide +kernel⟩
abbrev s_still_by : Stmt := topS 24
abbrev n_still_by : List Str := ["house", "choice", "deed", "deeds"]
theorem c_still_by : FnScope n_still_by ["house", "choice"] (defScope s_still_by) := ⟨rfl, rfl, rfl, by decide +kernel, rfl, by decide +kernel, by decide +kernel⟩
abbrev s_less_row : Stmt := topS 26
abbrev n_less_row : List Str := ["row", "lead", "by", "here", "there"]
theorem c_less_row : FnScope n_less_row ["row", "lead", "by"] (defScope s_less_row) := ⟨rfl, rfl, rfl, by decide +kernel, rfl, by decide +kernel, by decide +kernel⟩
abbrev s_answers_of : Stmt := topS 27
abbrev n_answers_of : List Str := ["table", "rights", "rows", "many", "place", "spot", "lead", "row", "right", "at", "each"]
theorem c_answers_of : FnScope n_answers_of ["table", "rights"] (defScope s_answers_of) := ⟨rfl, rfl, rfl, by decide +kernel, rfl, by decide +kernel, by decide +kernel⟩
abbrev s_are_chances : Stmt := topS 32
abbrev n_are_chances : List Str := ["value", "stands", "goals", "each", "stand", "chance", "_", "one", "two"]
theorem c_are_chances : FnScope n_are_chances ["value", "stands"] (defScope s_are_chances) := ⟨rfl, rfl, rfl, by decide +kernel, rfl, by decide +kernel, by decide +kernel⟩
abbrev s_is_deed : Stmt := topS 33
abbrev n_is_deed : List Str := ["value", "pays", "stands"]
theorem c_is_deed : FnScope n_is_deed ["value", "pays", "stands"] (defScope s_is_deed) := ⟨rfl, rfl, rfl, by decide +kernel, rfl, by decide +kernel, by decide +kernel⟩
abbrev s_is_stand : Stmt := topS 34
abbrev n_is_stand : List Str := ["value", "pays", "stands", "each"]
theorem c_is_stand : FnScope n_is_stand ["value", "pays", "stands"] (defScope s_is_stand) := ⟨rfl, rfl, rfl, by decide +kernel, rfl, by decide +kernel, by decide +kernel⟩
abbrev s_is_share : Stmt := topS 35
abbrev n_is_share : List Str := ["value"]
theorem c_is_share : FnScope n_is_share ["value"] (defScope s_is_share) := ⟨rfl, rfl, rfl, by decide +kernel, rfl, by decide +kernel, by decide +kernel⟩
abbrev s_is_house_by : Stmt := topS 36
abbrev n_is_house_by : List Str := ["value", "stands", "each"]
theorem c_is_house_by : FnScope n_is_house_by ["value"] (defScope s_is_house_by) := ⟨rfl, rfl, rfl, by decide +kernel, rfl, by decide +kernel, by decide +kernel⟩
abbrev s_weighted_by : Stmt := topS 37
abbrev n_weighted_by : List Str := ["house", "weights", "stands", "stand", "chances", "gains"]
theorem c_weighted_by : FnScope n_weighted_by ["house", "weights"] (defScope s_weighted_by) := ⟨rfl, rfl, rfl, by decide +kernel, rfl, by decide +kernel, by decide +kernel⟩
abbrev s_chance_row : Stmt := topS 38
abbrev n_chance_row : List Str := ["chances", "stands", "told", "stand", "chance"]
theorem c_chance_row : FnScope n_chance_row ["chances", "stands"] (defScope s_chance_row) := ⟨rfl, rfl, rfl, by decide +kernel, rfl, by decide +kernel, by decide +kernel⟩
abbrev s_odds_mean : Stmt := topS 40
abbrev n_odds_mean : List Str := ["house", "stand", "odds", "deeds", "chances", "gains", "each", "deed"]
theorem c_odds_mean : FnScope n_odds_mean ["house", "stand", "odds"] (defScope s_odds_mean) := ⟨rfl, rfl, rfl, by decide +kernel, rfl, by decide +kernel, by decide +kernel⟩
abbrev s_solved_worths : Stmt := topS 41
abbrev n_solved_worths : List Str := ["share", "moves", "gains", "table", "at", "row", "spot", "each"]
theorem c_solved_worths : FnScope n_solved_worths ["share", "moves", "gains"] (defScope s_solved_worths) := ⟨rfl, rfl, rfl, by decide +kernel, rfl, by decide +kernel, by decide +kernel⟩
abbrev s_worths_by : Stmt := topS 42
abbrev n_worths_by : List Str := ["house", "still", "parts", "stand", "odds", "moves", "_", "gains"]
theorem c_worths_by : FnScope n_worths_by ["house", "still"] (defScope s_worths_by) := ⟨rfl, rfl, rfl, by decide +kernel, rfl, by decide +kernel, by decide +kernel⟩
abbrev s_gap_by : Stmt := topS 44
abbrev n_gap_by : List Str := ["house", "weights", "worths", "stand", "deed", "chances", "gains", "ahead", "goal", "chance"]
theorem c_gap_by : FnScope n_gap_by ["house", "weights", "worths", "stand", "deed"] (defScope s_gap_by) := ⟨rfl, rfl, rfl, by decide +kernel, rfl, by decide +kernel, by decide +kernel⟩
abbrev s_gaps_by : Stmt := topS 45
abbrev n_gaps_by : List Str := ["house", "weights", "worths", "stand", "deeds", "deed"]
theorem c_gaps_by : FnScope n_gaps_by ["house", "weights", "worths"] (defScope s_gaps_by) := ⟨rfl, rfl, rfl, by decide +kernel, rfl, by decide +kernel, by decide +kernel⟩
abbrev s_weighted_worths : Stmt := topS 46
abbrev n_weighted_worths : List Str := ["house", "weights", "choice", "row"]
theorem c_weighted_worths : FnScope n_weighted_worths ["house", "weights", "choice"] (defScope s_weighted_worths) := ⟨rfl, rfl, rfl, by decide +kernel, rfl, by decide +kernel, by decide +kernel⟩
abbrev s_least_at : Stmt := topS 47
abbrev n_least_at : List Str := ["row", "at", "spot", "each"]
theorem c_least_at : FnScope n_least_at ["row"] (defScope s_least_at) := ⟨rfl, rfl, rfl, by decide +kernel, rfl, by decide +kernel, by decide +kernel⟩
abbrev s_turn_by : Stmt := topS 48
abbrev n_turn_by : List Str := ["house", "weights", "choice", "gaps", "row", "deed"]
theorem c_turn_by : FnScope n_turn_by ["house", "weights", "choice"] (defScope s_turn_by) := ⟨rfl, rfl, rfl, by decide +kernel, rfl, by decide +kernel, by decide +kernel⟩
abbrev s_best_by : Stmt := topS 49
abbrev n_best_by : List Str := ["house", "weights", "choice", "other"]
theorem c_best_by : FnScope n_best_by ["house", "weights"] (defScope s_best_by) := ⟨rfl, rfl, rfl, by decide +kernel, rfl, by decide +kernel, by decide +kernel⟩
abbrev s_check_house : Stmt := topS 55
abbrev n_check_house : List Str := ["value"]
theorem c_check_house : FnScope n_check_house ["value"] (defScope s_check_house) := ⟨rfl, rfl, rfl, by decide +kernel, rfl, by decide +kernel, by decide +kernel⟩
abbrev s_check_weights : Stmt := topS 56
abbrev n_check_weights : List Str := ["house", "value", "index", "each"]
theorem c_check_weights : FnScope n_check_weights ["house", "value"] (defScope s_check_weights) := ⟨rfl, rfl, rfl, by decide +kernel, rfl, by decide +kernel, by decide +kernel⟩
abbrev s_best : Stmt := topS 58
abbrev n_best : List Str := ["house", "weights"]
theorem c_best : FnScope n_best ["house", "weights"] (defScope s_best) := ⟨rfl, rfl, rfl, by decide +kernel, rfl, by decide +kernel, by decide +kernel⟩
abbrev s_weighted : Stmt := topS 60
abbrev n_weighted : List Str := ["house", "weights"]
theorem c_weighted : FnScope n_weighted ["house", "weights"] (defScope s_weighted) := ⟨rfl, rfl, rfl, by decide +kernel, rfl, by decide +kernel, by decide +kernel⟩
abbrev s_law_spring : Stmt := topS 62
abbrev n_law_spring : List Str := ["_law_script", "_law_lap", "_law_mixed", "_law_cell", "_law_own"]
theorem c_law_spring : FnScope n_law_spring ["_law_script", "_law_lap"] (defScope s_law_spring) := ⟨rfl, rfl, rfl, by decide +kernel, rfl, by decide +kernel, by decide +kernel⟩
abbrev s_law_pick : Stmt := topS 63
abbrev n_law_pick : List Str := ["_law_spring_here", "_law_limit", "_law_digit", "_law_mixed"]
theorem c_law_pick : FnScope n_law_pick ["_law_spring_here", "_law_limit"] (defScope s_law_pick) := ⟨rfl, rfl, rfl, by decide +kernel, rfl, by decide +kernel, by decide +kernel⟩
abbrev s_law_any_of : Stmt := topS 64
abbrev n_law_any_of : List Str := ["_law_spring_here", "_law_some"]
theorem c_law_any_of : FnScope n_law_any_of ["_law_spring_here", "_law_some"] (defScope s_law_any_of) := ⟨rfl, rfl, rfl, by decide +kernel, rfl, by decide +kernel, by decide +kernel⟩
abbrev s_law_frac : Stmt := topS 65
abbrev n_law_frac : List Str := ["_law_up", "_law_down", "_law_one", "_law_two"]
theorem c_law_frac : FnScope n_law_frac ["_law_up", "_law_down"] (defScope s_law_frac) := ⟨rfl, rfl, rfl, by decide +kernel, rfl, by decide +kernel, by decide +kernel⟩
abbrev s_law_plus : Stmt := topS 66
abbrev n_law_plus : List Str := ["_law_x", "_law_y"]
theorem c_law_plus : FnScope n_law_plus ["_law_x", "_law_y"] (defScope s_law_plus) := ⟨rfl, rfl, rfl, by decide +kernel, rfl, by decide +kernel, by decide +kernel⟩
abbrev s_law_minus : Stmt := topS 67
abbrev n_law_minus : List Str := ["_law_x", "_law_y"]
theorem c_law_minus : FnScope n_law_minus ["_law_x", "_law_y"] (defScope s_law_minus) := ⟨rfl, rfl, rfl, by decide +kernel, rfl, by decide +kernel, by decide +kernel⟩
abbrev s_law_times : Stmt := topS 68
abbrev n_law_times : List Str := ["_law_x", "_law_y"]
theorem c_law_times : FnScope n_law_times ["_law_x", "_law_y"] (defScope s_law_times) := ⟨rfl, rfl, rfl, by decide +kernel, rfl, by decide +kernel, by decide +kernel⟩
abbrev s_law_over : Stmt := topS 69
abbrev n_law_over : List Str := ["_law_x", "_law_y"]
theorem c_law_over : FnScope n_law_over ["_law_x", "_law_y"] (defScope s_law_over) := ⟨rfl, rfl, rfl, by decide +kernel, rfl, by decide +kernel, by decide +kernel⟩
abbrev s_law_below : Stmt := topS 70
abbrev n_law_below : List Str := ["_law_x", "_law_y"]
theorem c_law_below : FnScope n_law_below ["_law_x", "_law_y"] (defScope s_law_below) := ⟨rfl, rfl, rfl, by decide +kernel, rfl, by decide +kernel, by decide +kernel⟩
abbrev s_law_dot : Stmt := topS 71
abbrev n_law_dot : List Str := ["_law_one", "_law_two", "_law_found", "_law_x", "_law_y"]
theorem c_law_dot : FnScope n_law_dot ["_law_one", "_law_two"] (defScope s_law_dot) := ⟨rfl, rfl, rfl, by decide +kernel, rfl, by decide +kernel, by decide +kernel⟩
abbrev s_law_part : Stmt := topS 72
abbrev n_law_part : List Str := ["_law_spring_here", "_law_way", "_law_under"]
theorem c_law_part : FnScope n_law_part ["_law_spring_here"] (defScope s_law_part) := ⟨rfl, rfl, rfl, by decide +kernel, rfl, by decide +kernel, by decide +kernel⟩
abbrev s_law_gains : Stmt := topS 73
abbrev n_law_gains : List Str := ["_law_spring_here", "_law_pays", "_law_found", "_law_go"]
theorem c_law_gains : FnScope n_law_gains ["_law_spring_here", "_law_pays"] (defScope s_law_gains) := ⟨rfl, rfl, rfl, by decide +kernel, rfl, by decide +kernel, by decide +kernel⟩
abbrev s_law_parts : Stmt := topS 74
abbrev n_law_parts : List Str := ["_law_spring_here", "_law_wide", "_law_found", "_law_at", "_law_way"]
theorem c_law_parts : FnScope n_law_parts ["_law_spring_here", "_law_wide"] (defScope s_law_parts) := ⟨rfl, rfl, rfl, by decide +kernel, rfl, by decide +kernel, by decide +kernel⟩
abbrev s_law_chances : Stmt := topS 75
abbrev n_law_chances : List Str := ["_law_spring_here", "_law_wide", "_law_parts_here", "_law_at"]
theorem c_law_chances : FnScope n_law_chances ["_law_spring_here", "_law_wide"] (defScope s_law_chances) := ⟨rfl, rfl, rfl, by decide +kernel, rfl, by decide +kernel, by decide +kernel⟩
abbrev s_law_sized : Stmt := topS 76
abbrev n_law_sized : List Str := ["_law_spring_here", "_law_counts", "_law_pays", "_law_share", "_law_stands", "_law_many_here", "_law_stand", "_law_go", "_law_chances_here"]
theorem c_law_sized : FnScope n_law_sized ["_law_spring_here", "_law_counts", "_law_pays"] (defScope s_law_sized) := ⟨rfl, rfl, rfl, by decide +kernel, rfl, by decide +kernel, by decide +kernel⟩
abbrev s_law_world : Stmt := topS 77
abbrev n_law_world : List Str := ["_law_spring_here", "_law_most_here", "_law_deeds", "_law_pays", "_law_counts", "_law_go"]
theorem c_law_world : FnScope n_law_world ["_law_spring_here", "_law_most_here", "_law_deeds", "_law_pays"] (defScope s_law_world) := ⟨rfl, rfl, rfl, by decide +kernel, rfl, by decide +kernel, by decide +kernel⟩
abbrev s_law_sure : Stmt := topS 78
abbrev n_law_sure : List Str := ["_law_world_here", "_law_chosen", "_law_found", "_law_stand", "_law_at", "_law_spot"]
theorem c_law_sure : FnScope n_law_sure ["_law_world_here", "_law_chosen"] (defScope s_law_sure) := ⟨rfl, rfl, rfl, by decide +kernel, rfl, by decide +kernel, by decide +kernel⟩
abbrev s_law_moves : Stmt := topS 79
abbrev n_law_moves : List Str := ["_law_world_here", "_law_plan", "_law_found", "_law_stand", "_law_odds", "_law_row", "_law_deed", "_law_odd", "_law_to", "_law_chance"]
theorem c_law_moves : FnScope n_law_moves ["_law_world_here", "_law_plan"] (defScope s_law_moves) := ⟨rfl, rfl, rfl, by decide +kernel, rfl, by decide +kernel, by decide +kernel⟩
abbrev s_law_got : Stmt := topS 80
abbrev n_law_got : List Str := ["_law_world_here", "_law_plan", "_law_found", "_law_stand", "_law_odds", "_law_row", "_law_deed", "_law_odd", "_law_x", "_law_y"]
theorem c_law_got : FnScope n_law_got ["_law_world_here", "_law_plan"] (defScope s_law_got) := ⟨rfl, rfl, rfl, by decide +kernel, rfl, by decide +kernel, by decide +kernel⟩
abbrev s_law_solved : Stmt := topS 81
abbrev n_law_solved : List Str := ["_law_lines", "_law_left", "_law_at", "_law_lead", "_law_spot", "_law_less", "_law_row", "_law_x", "_law_y"]
theorem c_law_solved : FnScope n_law_solved ["_law_lines"] (defScope s_law_solved) := ⟨rfl, rfl, rfl, by decide +kernel, rfl, by decide +kernel, by decide +kernel⟩
abbrev s_law_worths : Stmt := topS 82
abbrev n_law_worths : List Str := ["_law_world_here", "_law_plan", "_law_moves_here", "_law_got_here", "_law_lines", "_law_at", "_law_line", "_law_x", "_law_spot"]
theorem c_law_worths : FnScope n_law_worths ["_law_world_here", "_law_plan"] (defScope s_law_worths) := ⟨rfl, rfl, rfl, by decide +kernel, rfl, by decide +kernel, by decide +kernel⟩
abbrev s_law_choices : Stmt := topS 83
abbrev n_law_choices : List Str := ["_law_world_here", "_law_found", "_law_stand", "_law_more", "_law_some", "_law_at"]
theorem c_law_choices : FnScope n_law_choices ["_law_world_here"] (defScope s_law_choices) := ⟨rfl, rfl, rfl, by decide +kernel, rfl, by decide +kernel, by decide +kernel⟩
abbrev s_law_dressed : Stmt := topS 84
abbrev n_law_dressed : List Str := ["_law_world_here", "_law_by", "_law_stands", "_law_stand", "_law_deed"]
theorem c_law_dressed : FnScope n_law_dressed ["_law_world_here", "_law_by"] (defScope s_law_dressed) := ⟨rfl, rfl, rfl, by decide +kernel, rfl, by decide +kernel, by decide +kernel⟩
abbrev s_law_heights : Stmt := topS 85
abbrev n_law_heights : List Str := ["_law_world_here", "_law_by", "_law_chosen", "_law_row"]
theorem c_law_heights : FnScope n_law_heights ["_law_world_here", "_law_by", "_law_chosen"] (defScope s_law_heights) := ⟨rfl, rfl, rfl, by decide +kernel, rfl, by decide +kernel, by decide +kernel⟩
abbrev s_law_is_whole : Stmt := topS 86
abbrev n_law_is_whole : List Str := ["_law_thing"]
theorem c_law_is_whole : FnScope n_law_is_whole ["_law_thing"] (defScope s_law_is_whole) := ⟨rfl, rfl, rfl, by decide +kernel, rfl, by decide +kernel, by decide +kernel⟩
abbrev s_law_is_tuple : Stmt := topS 87
abbrev n_law_is_tuple : List Str := ["_law_thing", "_law_wide"]
theorem c_law_is_tuple : FnScope n_law_is_tuple ["_law_thing", "_law_wide"] (defScope s_law_is_tuple) := ⟨rfl, rfl, rfl, by decide +kernel, rfl, by decide +kernel, by decide +kernel⟩
abbrev s_law_is_chosen : Stmt := topS 88
abbrev n_law_is_chosen : List Str := ["_law_world_here", "_law_thing", "_law_stand", "_law_at"]
theorem c_law_is_chosen : FnScope n_law_is_chosen ["_law_world_here", "_law_thing"] (defScope s_law_is_chosen) := ⟨rfl, rfl, rfl, by decide +kernel, rfl, by decide +kernel, by decide +kernel⟩
abbrev s_law_tops : Stmt := topS 89
abbrev n_law_tops : List Str := ["_law_world_here", "_law_by", "_law_found", "_law_chosen", "_law_row", "_law_x", "_law_y"]
theorem c_law_tops : FnScope n_law_tops ["_law_world_here", "_law_by"] (defScope s_law_tops) := ⟨rfl, rfl, rfl, by decide +kernel, rfl, by decide +kernel, by decide +kernel⟩
abbrev s_law_is_best : Stmt := topS 90
abbrev n_law_is_best : List Str := ["_law_world_here", "_law_by", "_law_tops_here", "_law_told"]
theorem c_law_is_best : FnScope n_law_is_best ["_law_world_here", "_law_by", "_law_tops_here", "_law_told"] (defScope s_law_is_best) := ⟨rfl, rfl, rfl, by decide +kernel, rfl, by decide +kernel, by decide +kernel⟩
abbrev s_law_right : Stmt := topS 91
abbrev n_law_right : List Str := ["_law_spring_here", "_law_most_here", "_law_deeds", "_law_world_here", "_law_by", "_law_other", "_law_tops_here", "_law_first"]
theorem c_law_right : FnScope n_law_right ["_law_spring_here"] (defScope s_law_right) := ⟨rfl, rfl, rfl, by decide +kernel, rfl, by decide +kernel, by decide +kernel⟩
abbrev s_law : Stmt := topS 92
abbrev n_law : List Str := ["_law_script", "_law_lap"]
theorem c_law : FnScope n_law ["_law_script"] (defScope s_law) := ⟨rfl, rfl, rfl, by decide +kernel, rfl, by decide +kernel, by decide +kernel⟩
end Dh

set_option maxHeartbeats 4000000
/-! Fractions as data; short words; the first defs. -/
namespace Dh
open PySem PySem.Spec PyProof.Rows L2 Ab

/-! ### short words -/
section
variable {X : Cx} {es : List Sl} {pos : Pos}
theorem nm (i : Nat) {x : Str} {d : PyData} (he : es[i]? = some (.val d) := by rfl) (hN : X.N[i]? = some x := by rfl) (hv : Vis X.env.scope x := by first | exact Or.inl rfl | exact Or.inr (Or.inl rfl) | exact Or.inr (Or.inr rfl))
    (hd : (x == ("__debug__" : Str)) = false := by decide) (hcd : (x == ("__classdict__" : Str)) = false := by decide) : Eval X (.Name x pos) es (Is d) := ev_name he hN hv hd hcd
end
/-- what the module's names hold that the defs lean on -/
structure Bt (K : PySem.W.Frag) (mg : Str → Option Value) : Prop where
  len : mg "len" = none
  range : mg "range" = none
  zip : mg "zip" = none
  enumerate : mg "enumerate" = none
  tuple : mg "tuple" = none
  list : mg "list" = none
  all : mg "all" = none
  isinstance : mg "isinstance" = none
  int : mg "int" = none
  bool : mg "bool" = none
  abs : mg "abs" = none
  max : mg "max" = none
  min : mg "min" = none
  sum : mg "sum" = none
  divmod : mg "divmod" = none
  repr : mg "repr" = none
  gcd : mg "gcd" = some (.builtin "math.gcd")
  zero : ∃ a, mg "ZERO" = some (.ref a) ∧ ∀ H : Hp, Rp K H (.ref a) (.tuple [.int 0, .int 1])
  one : ∃ a, mg "ONE" = some (.ref a) ∧ ∀ H : Hp, Rp K H (.ref a) (.tuple [.int 1, .int 1])
  pays : ∃ t, mg "MOST_PAYS" = some (.int 4 t)
  stands : ∃ t, mg "MOST_STANDS" = some (.int 8 t)
  deeds : ∃ t, mg "MOST_DEEDS" = some (.int 4 t)

/-! ### fractions -/
def eR (q : Rat) : PyData := .tuple [.int q.num, .int (q.den : Int)]
def Sz (a b : Nat) (q : Rat) : Prop := q.num.natAbs < 2 ^ a ∧ q.den < 2 ^ b
abbrev S0 (q : Rat) : Prop := Sz 4500 4500 q
theorem Sz.mono {a b a' b' : Nat} {q : Rat} (h : Sz a b q) (ha : a ≤ a') (hb : b ≤ b') : Sz a' b' q :=
  ⟨Nat.lt_of_lt_of_le h.1 (Nat.pow_le_pow_right (by decide) ha), Nat.lt_of_lt_of_le h.2 (Nat.pow_le_pow_right (by decide) hb)⟩

/-! ### ratio -/
theorem cdiv_of {i j : Int} (h : j ≠ 0) (hb : j.natAbs < 2 ^ 9000) : CDivA i j := ⟨h, PyProof.noPylong_of_log2 (PySem.Flt.log2_lt_of (by decide) hb)⟩
def gI (t l : Int) : Int := ((Nat.gcd t.natAbs l.natAbs : Nat) : Int)
theorem gI_pos {t l : Int} (h : l ≠ 0) : 0 < gI t l := by
  unfold gI
  have : 0 < Nat.gcd t.natAbs l.natAbs := Nat.gcd_pos_of_pos_right _ (by omega)
  omega
theorem gI_small {t l : Int} {n : Nat} (h : l ≠ 0) (hb : l.natAbs < 2 ^ n) : (gI t l).natAbs < 2 ^ n := by
  unfold gI
  rw [Int.natAbs_natCast]
  exact Nat.lt_of_le_of_lt (Nat.gcd_le_right _ (by omega)) hb
theorem gI_dvd_l (t l : Int) : gI t l ∣ t := by
  unfold gI
  exact Int.ofNat_dvd_left.mpr (Nat.gcd_dvd_left _ _)
theorem gI_dvd_r (t l : Int) : gI t l ∣ l := by
  unfold gI
  exact Int.ofNat_dvd_left.mpr (Nat.gcd_dvd_right _ _)
theorem fdiv_dvd {a b : Int} (h : b ∣ a) : a.fdiv b = a / b := by
  rw [Int.fdiv_eq_ediv_of_dvd h]
theorem gcd_eq (t l : Int) : (Int.gcd l t : Int) = gI t l := by
  unfold gI
  show ((Nat.gcd l.natAbs t.natAbs : Nat) : Int) = _
  rw [Nat.gcd_comm]
theorem ratio_pos {t l : Int} (h : 0 < l) : PyData.tuple [.int (t.fdiv (gI t l)), .int (l.fdiv (gI t l))] = eR (Rat.divInt t l) := by
  have hne : l ≠ 0 := by omega
  unfold eR
  rw [fdiv_dvd (gI_dvd_l t l), fdiv_dvd (gI_dvd_r t l), Rat.num_divInt, Rat.den_divInt, if_neg hne, gcd_eq, Int.sign_eq_one_of_pos h, Int.one_mul]
  have e : ((l.natAbs / Int.gcd l t : Nat) : Int) = l / gI t l := by
    rw [Int.natCast_ediv, gcd_eq, Int.natAbs_of_nonneg (by omega)]
  rw [e]
theorem ratio_neg {t l : Int} (h : l < 0) : PyData.tuple [.int (t.fdiv (-gI t l)), .int (l.fdiv (-gI t l))] = eR (Rat.divInt t l) := by
  have hne : l ≠ 0 := by omega
  unfold eR
  rw [fdiv_dvd (Int.neg_dvd.mpr (gI_dvd_l t l)), fdiv_dvd (Int.neg_dvd.mpr (gI_dvd_r t l)), Rat.num_divInt, Rat.den_divInt, if_neg hne, gcd_eq, Int.sign_eq_neg_one_of_neg h]
  have e : ((l.natAbs / Int.gcd l t : Nat) : Int) = l / -gI t l := by
    rw [Int.natCast_ediv, gcd_eq, Int.ediv_neg, ← Int.neg_ediv_of_dvd (gI_dvd_r t l)]
    congr 1
    omega
  rw [e, Int.ediv_neg, ← Int.neg_ediv_of_dvd (gI_dvd_l t l), Int.neg_one_mul]

section
variable {P : Program} {w : World} {K : PySem.W.Frag} {mg : Str → Option Value} {base : Heap}
def R_ratio (ds : List PyData) (PP : PyData → Prop) : Prop := ∃ t l : Int, ds = [.int t, .int l] ∧ l ≠ 0 ∧ l.natAbs < 2 ^ 9000 ∧ PP = Is (eR (Rat.divInt t l))
theorem ok_ratio {f : Addr} {fd : FuncData} (B : Bt K mg) (F : Fun K "ratio" "ratio" s_ratio f fd) : FnOk P w K mg base CX0 1 f fd ["top", "low"] (spP K R_ratio) := by
  refine fn_pure (N := n_ratio) F c_ratio (fun ds PP h => ?_) (fun cdv A outer s H E hr ds PP h => ?_)
  · obtain ⟨t, l, rfl, _⟩ := h
    rfl
  · obtain ⟨t, l, rfl, hl, hb, rfl⟩ := h
    refine x_set (i := 2) c_ratio.nd rfl (.inl rfl) (.inl rfl) (P := Is (.int (if 0 < l then gI t l else -gI t l)))
      (ev_if (et_gt (nm 1) ev_int) (fun h => ?_) (fun h => ?_)) ?_
    · have h' : 0 < l := of_decide_eq_true h.symm
      rw [if_pos h']
      exact ev_callM cr_gcd rfl B.gcd (ea_cons (nm 0) (ea_cons (nm 1) ea_nil)) (by rintro _ rfl; exact cd_gcd)
    · have h' : ¬ 0 < l := of_decide_eq_false h.symm
      rw [if_neg h']
      exact ev_neg (ev_callM cr_gcd rfl B.gcd (ea_cons (nm 0) (ea_cons (nm 1) ea_nil)) (by rintro _ rfl; exact cd_gcd))
    · rintro _ rfl
      have hg := gI_pos (t := t) hl
      have hs := gI_small (t := t) hl hb
      by_cases h' : 0 < l
      · rw [if_pos h']
        refine x_retIs (ev_tup (ea_cons (ev_fdivA (nm 0) (nm 2) (cdiv_of (by omega) hs)) (ea_cons (ev_fdivA (nm 1) (nm 2) (cdiv_of (by omega) hs)) ea_nil))) ?_
        exact ratio_pos h'
      · rw [if_neg h']
        refine x_retIs (ev_tup (ea_cons (ev_fdivA (nm 0) (nm 2) (cdiv_of (by omega) (by rw [Int.natAbs_neg]; exact hs))) (ea_cons (ev_fdivA (nm 1) (nm 2) (cdiv_of (by omega) (by rw [Int.natAbs_neg]; exact hs))) ea_nil))) ?_
        exact ratio_neg (by omega)
end
end Dh

set_option maxHeartbeats 4000000
/-! Sums, products, differences, quotients of fractions: printed by gen2.py (the package's and the law's own ones alike). -/
namespace Dh
open PySem PySem.Spec PyProof.Rows L2 Ab

theorem den_nat (x : Rat) : ((x.den : Nat) : Int).natAbs = x.den := Int.natAbs_natCast _
theorem S0.mulNN {x y : Rat} (hx : S0 x) (hy : S0 y) : CMulW x.num y.num := wide_mul hx.1 hy.1 (by decide) (by decide) (by decide)
theorem S0.mulND {x y : Rat} (hx : S0 x) (hy : S0 y) : CMulW x.num (y.den : Int) := wide_mul hx.1 (by rw [den_nat]; exact hy.2) (by decide) (by decide) (by decide)
theorem S0.mulDN {x y : Rat} (hx : S0 x) (hy : S0 y) : CMulW (x.den : Int) y.num := wide_mul (by rw [den_nat]; exact hx.2) hy.1 (by decide) (by decide) (by decide)
theorem S0.mulDD {x y : Rat} (hx : S0 x) (hy : S0 y) : CMulW (x.den : Int) (y.den : Int) := wide_mul (by rw [den_nat]; exact hx.2) (by rw [den_nat]; exact hy.2) (by decide) (by decide) (by decide)
theorem small_mul {i j : Int} (hi : i.natAbs < 2 ^ 4500) (hj : j.natAbs < 2 ^ 4500) : (i * j).natAbs < 2 ^ 9000 := wide_lt (a := 4500) (b := 4500) hi hj
theorem S0.dd {x y : Rat} (hx : S0 x) (hy : S0 y) : ((x.den : Int) * (y.den : Int)).natAbs < 2 ^ 9000 := small_mul (by rw [den_nat]; exact hx.2) (by rw [den_nat]; exact hy.2)
theorem S0.dn {x y : Rat} (hx : S0 x) (hy : S0 y) : ((x.den : Int) * y.num).natAbs < 2 ^ 9000 := small_mul (by rw [den_nat]; exact hx.2) hy.1
theorem dd_ne (x y : Rat) : ((x.den : Int) * (y.den : Int)) ≠ 0 := Int.mul_ne_zero (Int.natCast_ne_zero.mpr x.den_nz) (Int.natCast_ne_zero.mpr y.den_nz)
theorem dn_ne (x : Rat) {y : Rat} (h : y ≠ 0) : ((x.den : Int) * y.num) ≠ 0 := Int.mul_ne_zero (Int.natCast_ne_zero.mpr x.den_nz) (fun e => h (Rat.num_eq_zero.mp e))
theorem add_is (x y : Rat) : Rat.divInt (x.num * (y.den : Int) + y.num * (x.den : Int)) ((x.den : Int) * (y.den : Int)) = x + y := by
  rw [Rat.add_def', ← Rat.divInt_ofNat, Int.natCast_mul]
theorem sub_is (x y : Rat) : Rat.divInt (x.num * (y.den : Int) - y.num * (x.den : Int)) ((x.den : Int) * (y.den : Int)) = x - y := by
  rw [Rat.sub_def', ← Rat.divInt_ofNat, Int.natCast_mul]
theorem mul_is (x y : Rat) : Rat.divInt (x.num * y.num) ((x.den : Int) * (y.den : Int)) = x * y := by
  rw [Rat.mul_def', ← Rat.divInt_ofNat, Int.natCast_mul]
theorem div_is (x y : Rat) : Rat.divInt (x.num * (y.den : Int)) ((x.den : Int) * y.num) = x / y := by
  rw [Rat.div_def, Rat.inv_def]
  conv => rhs; lhs; rw [← Rat.num_divInt_den x]
  rw [Rat.divInt_mul_divInt]
theorem lt_is (x y : Rat) : decide (x.num * (y.den : Int) < y.num * (x.den : Int)) = decide (x < y) := by
  by_cases h : x < y
  · rw [decide_eq_true h, decide_eq_true ((Rat.lt_iff x y).mp h)]
  · rw [decide_eq_false h, decide_eq_false (fun z => h ((Rat.lt_iff x y).mpr z))]

section
variable {P : Program} {w : World} {K : PySem.W.Frag} {mg : Str → Option Value} {base : Heap}
def R_plus (ds : List PyData) (PP : PyData → Prop) : Prop := ∃ x y : Rat, ds = [eR x, eR y] ∧ S0 x ∧ S0 y ∧ PP = Is (eR (x + y))
def R_minus (ds : List PyData) (PP : PyData → Prop) : Prop := ∃ x y : Rat, ds = [eR x, eR y] ∧ S0 x ∧ S0 y ∧ PP = Is (eR (x - y))
def R_times (ds : List PyData) (PP : PyData → Prop) : Prop := ∃ x y : Rat, ds = [eR x, eR y] ∧ S0 x ∧ S0 y ∧ PP = Is (eR (x * y))
def R_over (ds : List PyData) (PP : PyData → Prop) : Prop := ∃ x y : Rat, ds = [eR x, eR y] ∧ S0 x ∧ S0 y ∧ y ≠ 0 ∧ PP = Is (eR (x / y))
def R_less (ds : List PyData) (PP : PyData → Prop) : Prop := ∃ x y : Rat, ds = [eR x, eR y] ∧ Sz 100000 100000 x ∧ Sz 100000 100000 y ∧ PP = Is (.bool (decide (x < y)))

theorem ok_plus {f : Addr} {fd : FuncData} (F : Fun K "plus" "plus" s_plus f fd) (G : Kn P w K mg base "ratio" 1 ["top", "low"] (spP K R_ratio)) : FnOk P w K mg base CX0 2 f fd ["one", "two"] (spP K R_plus) := by
  refine fn_pure (N := n_plus) F c_plus (fun ds PP h => ?_) (fun cdv A outer s H E hr ds PP h => ?_)
  · obtain ⟨x, y, rfl, _⟩ := h
    rfl
  · obtain ⟨x, y, rfl, hx, hy, rfl⟩ := h
    exact x_ret (ev_call G hr rfl (ea_cons (ev_add (ev_mul (ev_ixT (nm 0) ev_int rfl) (ev_ixT (nm 1) ev_int rfl) (hx.mulND hy)) (ev_mul (ev_ixT (nm 1) ev_int rfl) (ev_ixT (nm 0) ev_int rfl) (hy.mulND hx))) (ea_cons (ev_mul (ev_ixT (nm 0) ev_int rfl) (ev_ixT (nm 1) ev_int rfl) (hx.mulDD hy)) ea_nil)) ⟨_, _, rfl, dd_ne x y, hx.dd hy, rfl⟩) (by rintro _ rfl; exact congrArg eR (add_is x y))

theorem ok_law_plus {f : Addr} {fd : FuncData} (F : Fun K "_law_plus" "_law_plus" s_law_plus f fd) (G : Kn P w K mg base "_law_frac" 1 ["_law_up", "_law_down"] (spP K R_ratio)) : FnOk P w K mg base CX0 2 f fd ["_law_x", "_law_y"] (spP K R_plus) := by
  refine fn_pure (N := n_law_plus) F c_law_plus (fun ds PP h => ?_) (fun cdv A outer s H E hr ds PP h => ?_)
  · obtain ⟨x, y, rfl, _⟩ := h
    rfl
  · obtain ⟨x, y, rfl, hx, hy, rfl⟩ := h
    exact x_ret (ev_call G hr rfl (ea_cons (ev_add (ev_mul (ev_ixT (nm 0) ev_int rfl) (ev_ixT (nm 1) ev_int rfl) (hx.mulND hy)) (ev_mul (ev_ixT (nm 1) ev_int rfl) (ev_ixT (nm 0) ev_int rfl) (hy.mulND hx))) (ea_cons (ev_mul (ev_ixT (nm 0) ev_int rfl) (ev_ixT (nm 1) ev_int rfl) (hx.mulDD hy)) ea_nil)) ⟨_, _, rfl, dd_ne x y, hx.dd hy, rfl⟩) (by rintro _ rfl; exact congrArg eR (add_is x y))

theorem ok_minus {f : Addr} {fd : FuncData} (F : Fun K "minus" "minus" s_minus f fd) (G : Kn P w K mg base "ratio" 1 ["top", "low"] (spP K R_ratio)) : FnOk P w K mg base CX0 2 f fd ["one", "two"] (spP K R_minus) := by
  refine fn_pure (N := n_minus) F c_minus (fun ds PP h => ?_) (fun cdv A outer s H E hr ds PP h => ?_)
  · obtain ⟨x, y, rfl, _⟩ := h
    rfl
  · obtain ⟨x, y, rfl, hx, hy, rfl⟩ := h
    exact x_ret (ev_call G hr rfl (ea_cons (ev_sub (ev_mul (ev_ixT (nm 0) ev_int rfl) (ev_ixT (nm 1) ev_int rfl) (hx.mulND hy)) (ev_mul (ev_ixT (nm 1) ev_int rfl) (ev_ixT (nm 0) ev_int rfl) (hy.mulND hx))) (ea_cons (ev_mul (ev_ixT (nm 0) ev_int rfl) (ev_ixT (nm 1) ev_int rfl) (hx.mulDD hy)) ea_nil)) ⟨_, _, rfl, dd_ne x y, hx.dd hy, rfl⟩) (by rintro _ rfl; exact congrArg eR (sub_is x y))

theorem ok_law_minus {f : Addr} {fd : FuncData} (F : Fun K "_law_minus" "_law_minus" s_law_minus f fd) (G : Kn P w K mg base "_law_frac" 1 ["_law_up", "_law_down"] (spP K R_ratio)) : FnOk P w K mg base CX0 2 f fd ["_law_x", "_law_y"] (spP K R_minus) := by
  refine fn_pure (N := n_law_minus) F c_law_minus (fun ds PP h => ?_) (fun cdv A outer s H E hr ds PP h => ?_)
  · obtain ⟨x, y, rfl, _⟩ := h
    rfl
  · obtain ⟨x, y, rfl, hx, hy, rfl⟩ := h
    exact x_ret (ev_call G hr rfl (ea_cons (ev_sub (ev_mul (ev_ixT (nm 0) ev_int rfl) (ev_ixT (nm 1) ev_int rfl) (hx.mulND hy)) (ev_mul (ev_ixT (nm 1) ev_int rfl) (ev_ixT (nm 0) ev_int rfl) (hy.mulND hx))) (ea_cons (ev_mul (ev_ixT (nm 0) ev_int rfl) (ev_ixT (nm 1) ev_int rfl) (hx.mulDD hy)) ea_nil)) ⟨_, _, rfl, dd_ne x y, hx.dd hy, rfl⟩) (by rintro _ rfl; exact congrArg eR (sub_is x y))

theorem ok_times {f : Addr} {fd : FuncData} (F : Fun K "times" "times" s_times f fd) (G : Kn P w K mg base "ratio" 1 ["top", "low"] (spP K R_ratio)) : FnOk P w K mg base CX0 2 f fd ["one", "two"] (spP K R_times) := by
  refine fn_pure (N := n_times) F c_times (fun ds PP h => ?_) (fun cdv A outer s H E hr ds PP h => ?_)
  · obtain ⟨x, y, rfl, _⟩ := h
    rfl
  · obtain ⟨x, y, rfl, hx, hy, rfl⟩ := h
    exact x_ret (ev_call G hr rfl (ea_cons (ev_mul (ev_ixT (nm 0) ev_int rfl) (ev_ixT (nm 1) ev_int rfl) (hx.mulNN hy)) (ea_cons (ev_mul (ev_ixT (nm 0) ev_int rfl) (ev_ixT (nm 1) ev_int rfl) (hx.mulDD hy)) ea_nil)) ⟨_, _, rfl, dd_ne x y, hx.dd hy, rfl⟩) (by rintro _ rfl; exact congrArg eR (mul_is x y))

theorem ok_law_times {f : Addr} {fd : FuncData} (F : Fun K "_law_times" "_law_times" s_law_times f fd) (G : Kn P w K mg base "_law_frac" 1 ["_law_up", "_law_down"] (spP K R_ratio)) : FnOk P w K mg base CX0 2 f fd ["_law_x", "_law_y"] (spP K R_times) := by
  refine fn_pure (N := n_law_times) F c_law_times (fun ds PP h => ?_) (fun cdv A outer s H E hr ds PP h => ?_)
  · obtain ⟨x, y, rfl, _⟩ := h
    rfl
  · obtain ⟨x, y, rfl, hx, hy, rfl⟩ := h
    exact x_ret (ev_call G hr rfl (ea_cons (ev_mul (ev_ixT (nm 0) ev_int rfl) (ev_ixT (nm 1) ev_int rfl) (hx.mulNN hy)) (ea_cons (ev_mul (ev_ixT (nm 0) ev_int rfl) (ev_ixT (nm 1) ev_int rfl) (hx.mulDD hy)) ea_nil)) ⟨_, _, rfl, dd_ne x y, hx.dd hy, rfl⟩) (by rintro _ rfl; exact congrArg eR (mul_is x y))

theorem ok_over {f : Addr} {fd : FuncData} (F : Fun K "over" "over" s_over f fd) (G : Kn P w K mg base "ratio" 1 ["top", "low"] (spP K R_ratio)) : FnOk P w K mg base CX0 2 f fd ["one", "two"] (spP K R_over) := by
  refine fn_pure (N := n_over) F c_over (fun ds PP h => ?_) (fun cdv A outer s H E hr ds PP h => ?_)
  · obtain ⟨x, y, rfl, _⟩ := h
    rfl
  · obtain ⟨x, y, rfl, hx, hy, hn, rfl⟩ := h
    exact x_ret (ev_call G hr rfl (ea_cons (ev_mul (ev_ixT (nm 0) ev_int rfl) (ev_ixT (nm 1) ev_int rfl) (hx.mulND hy)) (ea_cons (ev_mul (ev_ixT (nm 0) ev_int rfl) (ev_ixT (nm 1) ev_int rfl) (hx.mulDN hy)) ea_nil)) ⟨_, _, rfl, dn_ne x hn, hx.dn hy, rfl⟩) (by rintro _ rfl; exact congrArg eR (div_is x y))

theorem ok_law_over {f : Addr} {fd : FuncData} (F : Fun K "_law_over" "_law_over" s_law_over f fd) (G : Kn P w K mg base "_law_frac" 1 ["_law_up", "_law_down"] (spP K R_ratio)) : FnOk P w K mg base CX0 2 f fd ["_law_x", "_law_y"] (spP K R_over) := by
  refine fn_pure (N := n_law_over) F c_law_over (fun ds PP h => ?_) (fun cdv A outer s H E hr ds PP h => ?_)
  · obtain ⟨x, y, rfl, _⟩ := h
    rfl
  · obtain ⟨x, y, rfl, hx, hy, hn, rfl⟩ := h
    exact x_ret (ev_call G hr rfl (ea_cons (ev_mul (ev_ixT (nm 0) ev_int rfl) (ev_ixT (nm 1) ev_int rfl) (hx.mulND hy)) (ea_cons (ev_mul (ev_ixT (nm 0) ev_int rfl) (ev_ixT (nm 1) ev_int rfl) (hx.mulDN hy)) ea_nil)) ⟨_, _, rfl, dn_ne x hn, hx.dn hy, rfl⟩) (by rintro _ rfl; exact congrArg eR (div_is x y))

theorem ok_is_less {f : Addr} {fd : FuncData} (F : Fun K "is_less" "is_less" s_is_less f fd) : FnOk P w K mg base CX0 1 f fd ["one", "two"] (spP K R_less) := by
  refine fn_pure (N := n_is_less) F c_is_less (fun ds PP h => ?_) (fun cdv A outer s H E hr ds PP h => ?_)
  · obtain ⟨x, y, rfl, _⟩ := h
    rfl
  · obtain ⟨x, y, rfl, hx, hy, rfl⟩ := h
    exact x_retIs (ev_lt (ev_mul (ev_ixT (nm 0) ev_int rfl) (ev_ixT (nm 1) ev_int rfl) (wide_mul hx.1 (by rw [den_nat]; exact hy.2) (by decide) (by decide) (by decide))) (ev_mul (ev_ixT (nm 1) ev_int rfl) (ev_ixT (nm 0) ev_int rfl) (wide_mul hy.1 (by rw [den_nat]; exact hx.2) (by decide) (by decide) (by decide)))) (congrArg PyData.bool (lt_is x y))

theorem ok_law_below {f : Addr} {fd : FuncData} (F : Fun K "_law_below" "_law_below" s_law_below f fd) : FnOk P w K mg base CX0 1 f fd ["_law_x", "_law_y"] (spP K R_less) := by
  refine fn_pure (N := n_law_below) F c_law_below (fun ds PP h => ?_) (fun cdv A outer s H E hr ds PP h => ?_)
  · obtain ⟨x, y, rfl, _⟩ := h
    rfl
  · obtain ⟨x, y, rfl, hx, hy, rfl⟩ := h
    exact x_retIs (ev_lt (ev_mul (ev_ixT (nm 0) ev_int rfl) (ev_ixT (nm 1) ev_int rfl) (wide_mul hx.1 (by rw [den_nat]; exact hy.2) (by decide) (by decide) (by decide))) (ev_mul (ev_ixT (nm 1) ev_int rfl) (ev_ixT (nm 0) ev_int rfl) (wide_mul hy.1 (by rw [den_nat]; exact hx.2) (by decide) (by decide) (by decide)))) (congrArg PyData.bool (lt_is x y))

end
end Dh

set_option maxHeartbeats 4000000
/-! The law's own ratio; checks of data. -/
namespace Dh
open PySem PySem.Spec PyProof.Rows L2 Ab
theorem abs_nat (i : Int) : (if i < 0 then -i else i) = ((i.natAbs : Nat) : Int) := by
  split <;> omega
section
variable {P : Program} {w : World} {K : PySem.W.Frag} {mg : Str → Option Value} {base : Heap}
theorem ok_law_frac {f : Addr} {fd : FuncData} (B : Bt K mg) (F : Fun K "_law_frac" "_law_frac" s_law_frac f fd) : FnOk P w K mg base CX0 1 f fd ["_law_up", "_law_down"] (spP K R_ratio) := by
  refine fn_pure (N := n_law_frac) F c_law_frac (fun ds PP h => ?_) (fun cdv A outer s H E hr ds PP h => ?_)
  · obtain ⟨t, l, rfl, _⟩ := h
    rfl
  · obtain ⟨t, l, rfl, hl, hb, rfl⟩ := h
    have ab : ∀ {X : Cx} {es : List Sl} {a : Expr} {p pos : Pos} {i : Int} (hm : X.mg = mg) (hg : Gl X "abs") (he : starEach [a] X.env = (false, eval a X.env) :: starEach [] X.env) (hpl : (backTo pos (starEach [] X.env)).any (·.1) = false), Eval X a es (Is (.int i)) → Eval X (.Call (.Name "abs" p) [a] [] pos) es (Is (.int ((i.natAbs : Nat) : Int))) :=
      fun {X es a p pos i} hm hg he hpl h => by
        rw [← abs_nat]
        exact ev_callB call_abs hg (by rw [hm]; exact B.abs) (by decide +kernel) (ea_cons h ea_nil he) (by rintro _ rfl; exact cd_abs) (by decide) (by decide) he hpl
    refine x_par (i := 2) (j := 3) rfl c_law_frac.nd rfl rfl (by decide) rfl rfl (ea_cons (ab rfl rfl rfl rfl (nm 0)) (ea_cons (ab rfl rfl rfl rfl (nm 1)) ea_nil)) ?_
    refine x_while PassesOwn.never (fun m es => ∃ a b : Nat, es = [.val (.int t), .val (.int l), .val (.int (a : Int)), .val (.int (b : Int))] ∧ Nat.gcd a b = Nat.gcd t.natAbs l.natAbs ∧ m = b) l.natAbs ⟨_, _, rfl, rfl, rfl⟩ fun m es ⟨a, b, he, hg, hm⟩ => ?_
    subst he hm
    refine ⟨decide (0 < (m : Int)), et_gt (nm 3) ev_int, fun hk => ?_, fun hk => ?_⟩
    · have h0 : 0 < (m : Int) := of_decide_eq_true hk
      refine x_par (i := 2) (j := 3) rfl c_law_frac.nd rfl rfl (by decide) rfl rfl (ea_cons (nm 3) (ea_cons (ev_mod (ev_callTy call_int1 rfl B.int (by decide +kernel) (ea_cons (nm 2) ea_nil) (by rintro _ rfl; exact cd_int)) (nm 3) h0) ea_nil)) (x_nil ?_)
      have h0' : 0 < m := by omega
      exact ⟨a % m, Nat.mod_lt _ h0', m, a % m, by rw [Int.natCast_emod]; rfl, by rw [← hg, Nat.gcd_comm a m, Nat.gcd_rec m a, Nat.gcd_comm], rfl⟩
    · have h0 : ¬ 0 < (m : Int) := of_decide_eq_false hk
      have hm : m = 0 := by omega
      subst hm
      rw [Nat.gcd_zero_right] at hg
      subst hg
      have hgp := gI_pos (t := t) hl
      have hs := gI_small (t := t) hl hb
      refine x_ret (P := Is (eR (Rat.divInt t l))) (ev_if (et_gt (nm 1) ev_int) (fun h => ?_) (fun h => ?_)) (fun _ h => h)
      · have h' : 0 < l := of_decide_eq_true h.symm
        exact (ev_tup (ea_cons (ev_fdivA (nm 0) (nm 2) (cdiv_of (by show gI t l ≠ 0; omega) hs)) (ea_cons (ev_fdivA (nm 1) (nm 2) (cdiv_of (by show gI t l ≠ 0; omega) hs)) ea_nil))).to (ratio_pos h')
      · have h' : ¬ 0 < l := of_decide_eq_false h.symm
        refine (ev_tup (ea_cons (ev_sub ev_int (ev_fdivA (nm 0) (nm 2) (cdiv_of (by show gI t l ≠ 0; omega) hs))) (ea_cons (ev_sub ev_int (ev_fdivA (nm 1) (nm 2) (cdiv_of (by show gI t l ≠ 0; omega) hs))) ea_nil))).to ?_
        rw [← ratio_neg (t := t) (l := l) (by omega), fdiv_dvd (Int.neg_dvd.mpr (gI_dvd_l t l)), fdiv_dvd (Int.neg_dvd.mpr (gI_dvd_r t l)), Int.ediv_neg, Int.ediv_neg]
        show PyData.tuple [.int (0 - t.fdiv (gI t l)), .int (0 - l.fdiv (gI t l))] = _
        rw [fdiv_dvd (gI_dvd_l t l), fdiv_dvd (gI_dvd_r t l), Int.zero_sub, Int.zero_sub]

/-! ### whole numbers, tuples -/
def R_whole (ds : List PyData) (PP : PyData → Prop) : Prop := ∃ i : Int, ds = [.int i] ∧ PP = Is (.bool true)
def R_tup (ds : List PyData) (PP : PyData → Prop) : Prop := ∃ (xs : List PyData) (n : Int), ds = [.tuple xs, .int n] ∧ PP = Is (.bool (decide ((xs.length : Int) = n)))
theorem cd_isiInt {i : Int} : CallD K (fun xs H Q => xs.length = 2 ∧ ∃ (T : String), xs[1]? = some (.ty T) ∧ rIsi K xs H Q) [.int i] (Is .none) ∨ True := .inr trivial
/-- isinstance(x, T): x an int or a tuple, T int, bool, tuple -/
theorem ev_isi {X : Cx} {a : Expr} {es : List Sl} {p pos pt : Pos} {d : PyData} {T : Str} {n : String} {b : Bool} (hg : Gl X "isinstance") (hm : X.mg "isinstance" = none) (hT : Gl X T) (mT : X.mg T = none) (vT : bootBuiltins T = some (.type n)) (ha : Eval X a es (Is d))
    (hb : ∀ (H : Hp) (v : V), Rp X.K H v d → ∃ t, TyX X.K H v t ∧ PySem.W.kitOne X.K t (.type n) = some b) (hn : T ≠ "__name__" := by decide) (hdT : (T == ("__debug__" : Str)) = false := by decide)
    (he : starEach [a, .Name T pt] X.env = (false, eval a X.env) :: starEach [.Name T pt] X.env := by rfl) (he2 : starEach [.Name T pt] X.env = (false, eval (.Name T pt) X.env) :: starEach [] X.env := by rfl) (hpl : (backTo pos (starEach [.Name T pt] X.env)).any (·.1) = false := by rfl) :
    Eval X (.Call (.Name "isinstance" p) [a, .Name T pt] [] pos) es (Is (.bool b)) := fun W O σ H S Q q =>
  tes_of (pe_callB call_isi hg hm (by decide +kernel) (pa_cons pe_s (pa_cons (pe_bltn (v := .ty n) hT mT vT rfl hn hdT) pa_nil he2) he) (by decide) (by decide) he hpl) (ha W O σ H S _ fun v H1 d' f1 S1 p1 r1 => by
    have p1' : d' = d := p1
    subst p1'
    obtain ⟨t, h1, h2⟩ := hb H1 v (r1.mono (hid_sub H1 O))
    exact ⟨v, .ty n, t, _, b, rfl, .ty n, h1, h2, q _ H1 _ f1 S1 rfl (.bl b)⟩)
theorem kit_int_int : PySem.W.kitOne K (.type "int") (.type "int") = some true := by rfl
theorem kit_int_bool : PySem.W.kitOne K (.type "int") (.type "bool") = some false := by rfl
theorem kit_tup_tup : PySem.W.kitOne K (.type "tuple") (.type "tuple") = some true := by rfl
theorem ty_int {H : Hp} {v : V} {i : Int} (r : Rp K H v (.int i)) : TyX K H v (.type "int") := by
  cases r
  exact .base (.int i)
theorem ty_tup {H : Hp} {v : V} {xs : List PyData} (r : Rp K H v (.tuple xs)) : TyX K H v (.type "tuple") := by
  cases r with
  | tup h _ =>
    rcases h with (h | ⟨o, h⟩) | ⟨o, its, n, hk, hc, _⟩
    · exact .base (.tup h)
    · exact .fTuple h
    · exact .kTuple hk hc
theorem ok_is_whole {f : Addr} {fd : FuncData} (B : Bt K mg) (F : Fun K "is_whole" "is_whole" s_is_whole f fd) : FnOk P w K mg base CX0 1 f fd ["value"] (spP K R_whole) := by
  refine fn_pure (N := n_is_whole) F c_is_whole (fun ds PP h => ?_) (fun cdv A outer s H E hr ds PP h => ?_)
  · obtain ⟨i, rfl, _⟩ := h
    rfl
  · obtain ⟨i, rfl, rfl⟩ := h
    exact x_retIs (ev_and (ev_isi (n := "int") rfl B.isinstance rfl B.int (by decide +kernel) (nm 0) fun H v r => ⟨_, ty_int r, kit_int_int⟩) fun _ => ev_one (ev_not (ev_isi (n := "bool") rfl B.isinstance rfl B.bool (by decide +kernel) (nm 0) fun H v r => ⟨_, ty_int r, kit_int_bool⟩))) rfl
theorem ok_law_is_whole {f : Addr} {fd : FuncData} (B : Bt K mg) (F : Fun K "_law_is_whole" "_law_is_whole" s_law_is_whole f fd) : FnOk P w K mg base CX0 1 f fd ["_law_thing"] (spP K R_whole) := by
  refine fn_pure (N := n_law_is_whole) F c_law_is_whole (fun ds PP h => ?_) (fun cdv A outer s H E hr ds PP h => ?_)
  · obtain ⟨i, rfl, _⟩ := h
    rfl
  · obtain ⟨i, rfl, rfl⟩ := h
    exact x_retIs (ev_and (ev_isi (n := "int") rfl B.isinstance rfl B.int (by decide +kernel) (nm 0) fun H v r => ⟨_, ty_int r, kit_int_int⟩) fun _ => ev_one (ev_not (ev_isi (n := "bool") rfl B.isinstance rfl B.bool (by decide +kernel) (nm 0) fun H v r => ⟨_, ty_int r, kit_int_bool⟩))) rfl
theorem ok_is_tuple_of {f : Addr} {fd : FuncData} (B : Bt K mg) (F : Fun K "is_tuple_of" "is_tuple_of" s_is_tuple_of f fd) : FnOk P w K mg base CX0 1 f fd ["value", "many"] (spP K R_tup) := by
  refine fn_pure (N := n_is_tuple_of) F c_is_tuple_of (fun ds PP h => ?_) (fun cdv A outer s H E hr ds PP h => ?_)
  · obtain ⟨xs, n, rfl, _⟩ := h
    rfl
  · obtain ⟨xs, n, rfl, rfl⟩ := h
    exact x_retIs (ev_and (ev_isi (n := "tuple") rfl B.isinstance rfl B.tuple (by decide +kernel) (nm 0) fun H v r => ⟨_, ty_tup r, kit_tup_tup⟩) fun _ => ev_one (ev_eqI (ev_callB call_len_seq rfl B.len (by decide +kernel) (ea_cons (nm 0) ea_nil) (by rintro _ rfl; exact cd_lenT)) (nm 1))) (by rw [Bool.true_and]; rfl)
theorem ok_law_is_tuple {f : Addr} {fd : FuncData} (B : Bt K mg) (F : Fun K "_law_is_tuple" "_law_is_tuple" s_law_is_tuple f fd) : FnOk P w K mg base CX0 1 f fd ["_law_thing", "_law_wide"] (spP K R_tup) := by
  refine fn_pure (N := n_law_is_tuple) F c_law_is_tuple (fun ds PP h => ?_) (fun cdv A outer s H E hr ds PP h => ?_)
  · obtain ⟨xs, n, rfl, _⟩ := h
    rfl
  · obtain ⟨xs, n, rfl, rfl⟩ := h
    exact x_retIs (ev_and (ev_isi (n := "tuple") rfl B.isinstance rfl B.tuple (by decide +kernel) (nm 0) fun H v r => ⟨_, ty_tup r, kit_tup_tup⟩) fun _ => ev_one (ev_eqI (ev_callB call_len_seq rfl B.len (by decide +kernel) (ea_cons (nm 0) ea_nil) (by rintro _ rfl; exact cd_lenT)) (nm 1))) (by rw [Bool.true_and]; rfl)
end
end Dh

set_option maxHeartbeats 4000000
/-! Rows of fractions. -/
namespace Dh
open PySem PySem.Spec PyProof.Rows L2 Ab

/-! ### comprehensions in short -/
section
variable {X : Cx} {es : List Sl} {iter elt : Expr} {pos : Pos} {scope : Scope} {α : Type} {xs : List α} {enc g : α → PyData} {f : α → Bool} {ifs : List Expr}
theorem hw1 {i : Nat} {x : Str} (h : es[i]? = some .no) : ∀ j ∈ [(x, i)].map (·.2), es[j]? = some .no := fun j hj => by
  have e : j = i := by simpa using hj
  rw [e]
  exact h
theorem hw2 {i k : Nat} {x y : Str} (h : es[i]? = some .no) (h2 : es[k]? = some .no) : ∀ j ∈ [(x, i), (y, k)].map (·.2), es[j]? = some .no := fun j hj => by
  have e : j = i ∨ j = k := by simpa using hj
  rcases e with e | e
  · rw [e]
    exact h
  · rw [e]
    exact h2
/-- [elt for x in iter] -/
theorem lc1 (i : Nat) {x : Str} {px : Pos} (hN : X.N.Nodup) (hi : IterC X (.Name x px) iter es (IsL (xs.map enc))) (ok : BlkOk X.N X.env.scope scope [(x, i)]) (hl : xs.length ≤ 100000)
    (hb : ∀ x ∈ xs, ∀ s0 H0 C cl fp, Eval (Cb X scope s0 H0 C cl fp) elt (es.set i (.val (enc x))) (Is (g x))) (he : es[i]? = some .no := by rfl) (hc : X.calm = true := by rfl) (hx : X.N[i]? = some x := by rfl)
    (hlo : ∀ s0 H0 C cl fp, (Cb X scope s0 H0 C cl fp).env.scope.names.lookup x = some .local := by intros; rfl) (hf : ∀ x, foldedSetIterable iter X.env x = pure x := by intro _; rfl) : EvalN X (.ListComp elt [⟨.Name x px, iter, [], 0⟩] scope pos) es (IsL (xs.map g)) :=
  en_lc hc hN hi ok (hw1 he) hl (fun y hy => ⟨_, fun s0 H0 C cl fp => tg_name (X := Cb X scope s0 H0 C cl fp) hN hx (.inl (hlo _ _ _ _ _)) (.inr (hlo _ _ _ _ _)), fun _ _ _ _ _ => es_nil, fun _ => hb y hy⟩) hf
/-- .. if t -/
theorem lc1F (i : Nat) {x : Str} {px : Pos} {t : Expr} (hN : X.N.Nodup) (hi : IterC X (.Name x px) iter es (IsL (xs.map enc))) (ok : BlkOk X.N X.env.scope scope [(x, i)]) (hl : xs.length ≤ 100000)
    (ht : ∀ x ∈ xs, ∀ s0 H0 C cl fp, EvalT (Cb X scope s0 H0 C cl fp) t (es.set i (.val (enc x))) (IsB (f x)))
    (hb : ∀ x ∈ xs, f x = true → ∀ s0 H0 C cl fp, Eval (Cb X scope s0 H0 C cl fp) elt (es.set i (.val (enc x))) (Is (g x))) (he : es[i]? = some .no := by rfl) (hc : X.calm = true := by rfl) (hx : X.N[i]? = some x := by rfl)
    (hlo : ∀ s0 H0 C cl fp, (Cb X scope s0 H0 C cl fp).env.scope.names.lookup x = some .local := by intros; rfl) (hf : ∀ x, foldedSetIterable iter X.env x = pure x := by intro _; rfl) : EvalN X (.ListComp elt [⟨.Name x px, iter, [t], 0⟩] scope pos) es (IsL ((xs.filter f).map g)) :=
  en_lcF hc hN hi ok (hw1 he) hl (fun y hy => ⟨_, fun s0 H0 C cl fp => tg_name (X := Cb X scope s0 H0 C cl fp) hN hx (.inl (hlo _ _ _ _ _)) (.inr (hlo _ _ _ _ _)), fun s0 H0 C cl fp => es_one (ht y hy s0 H0 C cl fp), fun k => hb y hy k⟩) hf
/-- [elt for x, y in iter] -/
theorem lc2 {β γ : Type} {xs : List (β × γ)} {e1 : β → PyData} {e2 : γ → PyData} {g : β × γ → PyData} (i k : Nat) {x y : Str} {px py pt : Pos} {kk : Nat} (hN : X.N.Nodup) (hi : IterC X (.Tuple [.Name x px, .Name y py] kk pt) iter es (IsL (xs.map fun p => .tuple [e1 p.1, e2 p.2]))) (ok : BlkOk X.N X.env.scope scope [(x, i), (y, k)]) (hl : xs.length ≤ 100000)
    (hb : ∀ p ∈ xs, ∀ s0 H0 C cl fp, Eval (Cb X scope s0 H0 C cl fp) elt ((es.set i (.val (e1 p.1))).set k (.val (e2 p.2))) (Is (g p))) (he : es[i]? = some .no := by rfl) (he2 : es[k]? = some .no := by rfl) (hc : X.calm = true := by rfl) (hx : X.N[i]? = some x := by rfl) (hy : X.N[k]? = some y := by rfl)
    (hlo : ∀ s0 H0 C cl fp, (Cb X scope s0 H0 C cl fp).env.scope.names.lookup x = some .local := by intros; rfl) (hlo2 : ∀ s0 H0 C cl fp, (Cb X scope s0 H0 C cl fp).env.scope.names.lookup y = some .local := by intros; rfl)
    (hs1 : ∀ s0 H0 C cl fp, (assignEach [.Name x px, .Name y py] (Cb X scope s0 H0 C cl fp).env).map (·.2) = assign (.Name x px) (Cb X scope s0 H0 C cl fp).env :: (assignEach [.Name y py] (Cb X scope s0 H0 C cl fp).env).map (·.2) := by intros; rfl)
    (hs2 : ∀ s0 H0 C cl fp, (assignEach [.Name y py] (Cb X scope s0 H0 C cl fp).env).map (·.2) = assign (.Name y py) (Cb X scope s0 H0 C cl fp).env :: (assignEach [] (Cb X scope s0 H0 C cl fp).env).map (·.2) := by intros; rfl)
    (hn : ∀ s0 H0 C cl fp, (assignEach [.Name x px, .Name y py] (Cb X scope s0 H0 C cl fp).env).length = 2 := by intros; rfl) (hst : ∀ s0 H0 C cl fp, (assignEach [.Name x px, .Name y py] (Cb X scope s0 H0 C cl fp).env).findIdx? (·.1) = none := by intros; rfl)
    (hf : ∀ x, foldedSetIterable iter X.env x = pure x := by intro _; rfl) : EvalN X (.ListComp elt [⟨.Tuple [.Name x px, .Name y py] kk pt, iter, [], 0⟩] scope pos) es (IsL (xs.map g)) :=
  en_lc hc hN hi ok (hw2 he he2) hl (fun p hp => ⟨_, fun s0 H0 C cl fp => tg_pair (X := Cb X scope s0 H0 C cl fp) hc hN hx (.inl (hlo _ _ _ _ _)) (.inr (hlo _ _ _ _ _)) hy (.inl (hlo2 _ _ _ _ _)) (.inr (hlo2 _ _ _ _ _)) (hs1 _ _ _ _ _) (hs2 _ _ _ _ _) (hn _ _ _ _ _) (hst _ _ _ _ _), fun _ _ _ _ _ => es_nil, fun _ => hb p hp⟩) hf
end
theorem zipW_map {α β : Type} (e1 : α → PyData) (e2 : β → PyData) (x : List α) (y : List β) : List.zipWith (fun a b => PyData.tuple [a, b]) (x.map e1) (y.map e2) = (x.zip y).map fun p => .tuple [e1 p.1, e2 p.2] := by
  rw [List.zipWith_map, List.zip, List.map_zipWith]
theorem mapIdx_enc {α : Type} (e : α → PyData) (x : List α) : ((x.map e).mapIdx fun i d => PyData.tuple [.int (i : Int), d]) = (x.zipIdx.map fun p => .tuple [.int (p.2 : Int), e p.1]) := by
  apply List.ext_getElem?
  intro i
  rw [List.getElem?_mapIdx, List.getElem?_map, List.getElem?_map, List.getElem?_zipIdx]
  cases x[i]? with
  | none => rfl
  | some a => simp
theorem rangeD_map (n : Nat) : rangeD 0 n = (List.range n).map fun (i : Nat) => PyData.int (i : Int) := by
  unfold rangeD
  apply List.map_congr_left
  intro i _
  rw [Int.zero_add]

section
variable {X : Cx} {e a b e2 : Expr} {es : List Sl} {pos p : Pos} {α β : Type} {tg : Expr}
theorem it_to {P Q : List PyData} (h : IterL X tg e es (IsL P)) (w : P = Q) : IterL X tg e es (IsL Q) := by
  rw [← w]
  exact h
theorem it_zipE {d1 d2 : PyData} {xs : List α} {ys : List β} {e1 : α → PyData} {e3 : β → PyData} {elts : List Expr} {kk : Nat} {tpos : Pos} (hg : Gl X "zip") (hm : X.mg "zip" = none) (ha : Eval X e es (Is d1)) (hb : Eval X e2 es (Is d2)) (s1 : Seqd d1 (xs.map e1)) (s2 : Seqd d2 (ys.map e3))
    (hs : starEach [e, e2] X.env = (false, eval e X.env) :: starEach [e2] X.env := by rfl) (hs2 : starEach [e2] X.env = (false, eval e2 X.env) :: starEach [] X.env := by rfl) (hpl : (backTo pos (starEach [e2] X.env)).any (·.1) = false := by rfl) :
    IterL X (.Tuple elts kk tpos) (.Call (.Name "zip" p) [e, e2] [] pos) es (IsL ((xs.zip ys).map fun q => .tuple [e1 q.1, e3 q.2])) := it_to (it_zip hg hm ha hb s1 s2 hs hs2 hpl) (zipW_map _ _ _ _)
theorem it_enumE {d1 : PyData} {xs : List α} {e1 : α → PyData} {elts : List Expr} {kk : Nat} {tpos : Pos} (hg : Gl X "enumerate") (hm : X.mg "enumerate" = none) (ha : Eval X e es (Is d1)) (s1 : Seqd d1 (xs.map e1))
    (hs : starEach [e] X.env = (false, eval e X.env) :: starEach [] X.env := by rfl) (hs2 : starEach [e] X.env = [(false, eval e X.env)] := by rfl) :
    IterL X (.Tuple elts kk tpos) (.Call (.Name "enumerate" p) [e] [] pos) es (IsL (xs.zipIdx.map fun q => .tuple [.int (q.2 : Int), e1 q.1])) := it_to (it_enum hg hm ha s1 hs hs2) (mapIdx_enc _ _)
theorem it_rangeE {n : Nat} (hg : Gl X "range") (hm : X.mg "range" = none) (ha : Eval X e es (Is (.int (n : Int)))) (hn : n ≤ 100000)
    (hs : starEach [e] X.env = [(false, eval e X.env)] := by rfl) (hs2 : starEach [e] X.env = (false, eval e X.env) :: starEach [] X.env := by rfl) : IterL X tg (.Call (.Name "range" p) [e] [] pos) es (IsL ((List.range n).map fun (i : Nat) => PyData.int (i : Int))) := it_to (it_rangeI hg hm ha hn hs hs2) (rangeD_map n)
end

/-! ### the mirror: sums -/
def eRow (l : List Rat) : PyData := .tuple (l.map eR)
def eLst (l : List Rat) : PyData := .list (l.map eR)
def sumR (l : List Rat) : Rat := l.foldl (· + ·) 0
def dotR (x y : List Rat) : Rat := sumR ((x.zip y).map fun p : Rat × Rat => p.1 * p.2)
def SumOk (l : List Rat) : Prop := l.length ≤ 1000 ∧ (∀ x ∈ l, S0 x) ∧ ∀ i, i ≤ l.length → S0 (sumR (l.take i))
def DotOk (x y : List Rat) : Prop := (∀ p ∈ x.zip y, S0 p.1 ∧ S0 p.2) ∧ SumOk ((x.zip y).map fun p : Rat × Rat => p.1 * p.2)
theorem sumR_snoc (l : List Rat) (x : Rat) : sumR (l ++ [x]) = sumR l + x := by
  unfold sumR
  rw [List.foldl_append]
  rfl
theorem sumR_take {l : List Rat} {i : Nat} (h : i < l.length) : sumR (l.take (i + 1)) = sumR (l.take i) + l[i] := by
  rw [List.take_add_one, List.getElem?_eq_getElem h]
  exact sumR_snoc _ _

section
variable {P : Program} {w : World} {K : PySem.W.Frag} {mg : Str → Option Value} {base : Heap}
theorem ev_zero {X : Cx} {es : List Sl} {pos : Pos} (B : Bt X.K X.mg) (hg : Gl X "ZERO") : Eval X (.Name "ZERO" pos) es (Is (eR 0)) := by
  obtain ⟨a, h1, h2⟩ := B.zero
  exact ev_glob hg h1 (v := .ref a) rfl h2
theorem ev_one' {X : Cx} {es : List Sl} {pos : Pos} (B : Bt X.K X.mg) (hg : Gl X "ONE") : Eval X (.Name "ONE" pos) es (Is (eR 1)) := by
  obtain ⟨a, h1, h2⟩ := B.one
  exact ev_glob hg h1 (v := .ref a) rfl h2
abbrev KP (P : Program) (w : World) (K : PySem.W.Frag) (mg : Str → Option Value) (base : Heap) (nm : Str) (k : Nat) (ps : List Str) (R : List PyData → (PyData → Prop) → Prop) : Prop := Kn P w K mg base nm k ps (spP K R)

def R_total (ds : List PyData) (PP : PyData → Prop) : Prop := ∃ l : List Rat, ds = [eLst l] ∧ SumOk l ∧ PP = Is (eR (sumR l))
theorem ok_total {f : Addr} {fd : FuncData} (B : Bt K mg) (F : Fun K "total" "total" s_total f fd) (Gp : KP P w K mg base "plus" 2 ["one", "two"] R_plus) : FnOk P w K mg base CX0 3 f fd ["fractions"] (spP K R_total) := by
  refine fn_pure (N := n_total) F c_total (fun ds PP h => ?_) (fun cdv A outer s H E hr ds PP h => ?_)
  · obtain ⟨l, rfl, _⟩ := h
    rfl
  · obtain ⟨l, rfl, ⟨hn, hx, hs⟩, rfl⟩ := h
    refine x_setIs (i := 1) c_total.nd rfl (.inl rfl) (.inl rfl) (ev_zero B rfl) ?_
    refine x_for PassesOwn.never rfl (it_list (nm 0)) (fun _ i es => ∃ e2, es = [.val (eLst l), .val (eR (sumR (l.take i))), e2]) (fun items p => ⟨_, rfl⟩) (fun items p i d es1 hd ⟨e2, he⟩ => ?_) (fun items p es1 ⟨e2, he⟩ => ?_)
    · have p' : items = l.map eR := p
      subst p' he
      rw [List.getElem?_map] at hd
      have hi : i < l.length := by
        cases z : l[i]? with
        | none => rw [z] at hd; cases hd
        | some a => exact (List.getElem?_eq_some_iff.mp z).1
      rw [List.getElem?_eq_getElem hi] at hd
      have hd := Option.some.inj hd
      subst hd
      refine ⟨_, _, tg_name (i := 2) c_total.nd rfl (.inl rfl) (.inl rfl), ?_⟩
      refine x_setIs (i := 1) c_total.nd rfl (.inl rfl) (.inl rfl) (ev_call Gp hr rfl (ea_cons (nm 1) (ea_cons (nm 2) ea_nil)) ⟨_, _, rfl, hs i (by omega), hx _ (List.getElem_mem hi), rfl⟩) (x_nil ⟨.val (eR l[i]), ?_⟩)
      rw [sumR_take hi]
      rfl
    · have p' : items = l.map eR := p
      subst p' he
      refine x_retIs (nm 1) ?_
      rw [List.length_map, List.take_length]
      rfl
def R_dot (ds : List PyData) (PP : PyData → Prop) : Prop := ∃ x y : List Rat, ds = [eRow x, eRow y] ∧ DotOk x y ∧ PP = Is (eR (dotR x y))
theorem ok_dot {f : Addr} {fd : FuncData} (B : Bt K mg) (F : Fun K "dot" "dot" s_dot f fd) (Gt : KP P w K mg base "total" 3 ["fractions"] R_total) (Gm : KP P w K mg base "times" 2 ["one", "two"] R_times) : FnOk P w K mg base CX0 4 f fd ["one", "two"] (spP K R_dot) := by
  refine fn_pure (N := n_dot) F c_dot (fun ds PP h => ?_) (fun cdv A outer s H E hr ds PP h => ?_)
  · obtain ⟨x, y, rfl, _⟩ := h
    rfl
  · obtain ⟨x, y, rfl, ⟨hp, hs⟩, rfl⟩ := h
    have hz : (x.zip y).length ≤ 100000 := by
      have := hs.1
      rw [List.length_map] at this
      omega
    refine x_retIs (ev_call Gt hr rfl (ea_cons (lc2 (xs := x.zip y) (e1 := eR) (e2 := eR) (g := fun p => eR (p.1 * p.2)) 2 3 c_dot.nd ?_ (blkOk_by (N := n_dot) (sc := defScope s_dot) (by decide +kernel)) hz (fun p hpp s0 H0 C cl fp => ?_)).is ea_nil) ⟨(x.zip y).map fun p : Rat × Rat => p.1 * p.2, ?_, hs, rfl⟩) rfl
    · exact IterL.c (it_zipE rfl B.zip (nm 0) (nm 1) (.inr rfl) (.inr rfl))
    · exact ev_call (Gm.mono (by decide : 2 ≤ 3)) hr rfl (ea_cons (nm 2) (ea_cons (nm 3) ea_nil)) ⟨_, _, rfl, (hp p hpp).1, (hp p hpp).2, rfl⟩
    · unfold eLst
      rw [List.map_map]
      rfl
end
end Dh

set_option maxHeartbeats 4000000
/-! Rows: scaled, joined, mean, the least one; checks of fractions. -/
namespace Dh
open PySem PySem.Spec PyProof.Rows L2 Ab

section
variable {X : Cx} {e : Expr} {es : List Sl} {pos p : Pos}
/-- tuple([..]) -/
theorem ev_tupOf {xs : List PyData} (hg : Gl X "tuple") (hm : X.mg "tuple" = none) (h : EvalN X e es (Ab.IsL xs)) (he : starEach [e] X.env = (false, eval e X.env) :: starEach [] X.env := by rfl) (hpl : (backTo pos (starEach [] X.env)).any (·.1) = false := by rfl) :
    Eval X (.Call (.Name "tuple" p) [e] [] pos) es (Is (.tuple xs)) := ev_callTy call_tuple_of hg hm (by decide +kernel) (ea_cons h.is ea_nil he) (by rintro _ rfl; exact cd_tupL) (by decide) (by decide) he hpl
/-- len of a tuple, of a list -/
theorem ev_lenT {xs : List PyData} (hg : Gl X "len") (hm : X.mg "len" = none) (h : Eval X e es (Is (.tuple xs))) (he : starEach [e] X.env = (false, eval e X.env) :: starEach [] X.env := by rfl) (hpl : (backTo pos (starEach [] X.env)).any (·.1) = false := by rfl) :
    Eval X (.Call (.Name "len" p) [e] [] pos) es (Is (.int (xs.length : Int))) := ev_callB call_len_seq hg hm (by decide +kernel) (ea_cons h ea_nil he) (by rintro _ rfl; exact cd_lenT) (by decide) (by decide) he hpl
theorem ev_lenL {xs : List PyData} (hg : Gl X "len") (hm : X.mg "len" = none) (h : Eval X e es (Is (.list xs))) (he : starEach [e] X.env = (false, eval e X.env) :: starEach [] X.env := by rfl) (hpl : (backTo pos (starEach [] X.env)).any (·.1) = false := by rfl) :
    Eval X (.Call (.Name "len" p) [e] [] pos) es (Is (.int (xs.length : Int))) := ev_callB call_len_seq hg hm (by decide +kernel) (ea_cons h ea_nil he) (by rintro _ rfl; exact cd_lenL) (by decide) (by decide) he hpl
/-- all([..]) of tests that are all true -/
theorem ev_allT {α : Type} {xs : List α} (hc : X.calm = true) (hg : Gl X "all") (hm : X.mg "all" = none) (h : EvalN X e es (Ab.IsL (xs.map fun _ => .bool true))) (he : starEach [e] X.env = (false, eval e X.env) :: starEach [] X.env := by rfl) (hpl : (backTo pos (starEach [] X.env)).any (·.1) = false := by rfl) :
    Eval X (.Call (.Name "all" p) [e] [] pos) es (Is (.bool true)) := by
  have h2 : EvalN X e es (Ab.IsL ((xs.map fun _ => true).map PyData.bool)) := h.to (by rw [List.map_map]; rfl)
  have h3 := ev_callB (pos := pos) (p := p) (cr_all hc) hg hm (by decide +kernel) (ea_cons h2.is ea_nil he) (P := Is (.bool ((xs.map fun _ => true).all id))) (by rintro _ rfl; exact cd_all) (by decide) (by decide) he hpl
  refine h3.to ?_
  congr 1
  simp
end

/-! ### the mirror -/
def addR (x y : List Rat) : List Rat := (x.zip y).map fun p : Rat × Rat => p.1 + p.2
def scaR (x : List Rat) (q : Rat) : List Rat := x.map fun a => a * q
def meanR (ps : List (Rat × List Rat)) (n : Nat) : List Rat := ps.foldl (fun f p => addR f (scaR p.2 p.1)) (List.replicate n 0)
def Row0 (l : List Rat) : Prop := l.length ≤ 1000 ∧ ∀ x ∈ l, S0 x
def MeanOk (ps : List (Rat × List Rat)) (n : Nat) : Prop := ps.length ≤ 1000 ∧ 1 ≤ n ∧ n ≤ 1000 ∧ (∀ p ∈ ps, S0 p.1 ∧ Row0 p.2 ∧ Row0 (scaR p.2 p.1)) ∧ ∀ i, i ≤ ps.length → Row0 (meanR (ps.take i) n)
def plainOdds (d : Int) (n : Nat) : List Rat := (List.range n).map fun (i : Nat) => if (i : Int) = d then 1 else 0
def subMul (x y : List Rat) (q : Rat) : List Rat := (x.zip y).map fun p : Rat × Rat => p.1 - q * p.2
def leastIx (l : List Rat) : Nat := (List.range l.length).foldl (fun at' i => if l.getD i 0 < l.getD at' 0 then i else at') 0
theorem meanR_take {ps : List (Rat × List Rat)} {n i : Nat} (h : i < ps.length) : meanR (ps.take (i + 1)) n = addR (meanR (ps.take i) n) (scaR ps[i].2 ps[i].1) := by
  unfold meanR
  rw [List.take_add_one, List.getElem?_eq_getElem h, List.foldl_append]
  rfl
theorem at_row {l : List Rat} {i : Nat} (h : i < l.length) : atI (l.map eR) (i : Int) = some (eR l[i]) := atI_nat (by rw [List.getElem?_map, List.getElem?_eq_getElem h]; rfl)
theorem zip_mem_l {α β : Type} {x : List α} {y : List β} {p : α × β} (h : p ∈ x.zip y) : p.1 ∈ x := (List.of_mem_zip (a := p.1) (b := p.2) h).1
theorem zip_mem_r {α β : Type} {x : List α} {y : List β} {p : α × β} (h : p ∈ x.zip y) : p.2 ∈ y := (List.of_mem_zip (a := p.1) (b := p.2) h).2
theorem zip_len {α β : Type} {x : List α} {y : List β} (h : x.length ≤ 1000) : (x.zip y).length ≤ 100000 := by
  rw [List.length_zip]
  omega
theorem get_of_map {α : Type} {xs : List α} {enc : α → PyData} {i : Nat} {d : PyData} (h : (xs.map enc)[i]? = some d) : ∃ hi : i < xs.length, d = enc xs[i] := by
  rw [List.getElem?_map] at h
  cases z : xs[i]? with
  | none => rw [z] at h; cases h
  | some a =>
    obtain ⟨hi, e⟩ := List.getElem?_eq_some_iff.mp z
    rw [z] at h
    exact ⟨hi, by rw [e]; exact (Option.some.inj h).symm⟩

section
variable {P : Program} {w : World} {K : PySem.W.Frag} {mg : Str → Option Value} {base : Heap}
def R_scaled (ds : List PyData) (PP : PyData → Prop) : Prop := ∃ (l : List Rat) (q : Rat), ds = [eRow l, eR q] ∧ Row0 l ∧ S0 q ∧ PP = Is (eRow (scaR l q))
theorem ok_scaled {f : Addr} {fd : FuncData} (B : Bt K mg) (F : Fun K "scaled" "scaled" s_scaled f fd) (Gm : KP P w K mg base "times" 2 ["one", "two"] R_times) : FnOk P w K mg base CX0 3 f fd ["row", "number"] (spP K R_scaled) := by
  refine fn_pure (N := n_scaled) F c_scaled (fun ds PP h => ?_) (fun cdv A outer s H E hr ds PP h => ?_)
  · obtain ⟨l, q, rfl, _⟩ := h
    rfl
  · obtain ⟨l, q, rfl, ⟨hn, hl⟩, hq, rfl⟩ := h
    refine x_retIs (ev_tupOf rfl B.tuple (lc1 (xs := l) (enc := eR) (g := fun a => eR (a * q)) 2 c_scaled.nd (IterL.c (it_tup (nm 0))) (blkOk_by (N := n_scaled) (sc := defScope s_scaled) (by decide +kernel)) (by omega) fun a ha s0 H0 C cl fp => ?_)) ?_
    · exact ev_call Gm hr rfl (ea_cons (nm 2) (ea_cons (nm 1) ea_nil)) ⟨_, _, rfl, hl a ha, hq, rfl⟩
    · unfold eRow scaR
      rw [List.map_map]
      rfl
def R_joined (ds : List PyData) (PP : PyData → Prop) : Prop := ∃ x y : List Rat, ds = [eRow x, eRow y] ∧ Row0 x ∧ Row0 y ∧ PP = Is (eRow (addR x y))
theorem ok_joined {f : Addr} {fd : FuncData} (B : Bt K mg) (F : Fun K "joined" "joined" s_joined f fd) (Gp : KP P w K mg base "plus" 2 ["one", "two"] R_plus) : FnOk P w K mg base CX0 3 f fd ["one", "two"] (spP K R_joined) := by
  refine fn_pure (N := n_joined) F c_joined (fun ds PP h => ?_) (fun cdv A outer s H E hr ds PP h => ?_)
  · obtain ⟨x, y, rfl, _⟩ := h
    rfl
  · obtain ⟨x, y, rfl, hx, hy, rfl⟩ := h
    refine x_retIs (ev_tupOf rfl B.tuple (lc2 (xs := x.zip y) (e1 := eR) (e2 := eR) (g := fun p => eR (p.1 + p.2)) 2 3 c_joined.nd (IterL.c (it_zipE rfl B.zip (nm 0) (nm 1) (.inr rfl) (.inr rfl))) (blkOk_by (N := n_joined) (sc := defScope s_joined) (by decide +kernel)) (zip_len hx.1) fun p hp s0 H0 C cl fp => ?_)) ?_
    · exact ev_call Gp hr rfl (ea_cons (nm 2) (ea_cons (nm 3) ea_nil)) ⟨_, _, rfl, hx.2 _ (zip_mem_l hp), hy.2 _ (zip_mem_r hp), rfl⟩
    · unfold eRow addR
      rw [List.map_map]
      rfl
def R_noughts (ds : List PyData) (PP : PyData → Prop) : Prop := ∃ n : Nat, ds = [.int (n : Int)] ∧ 1 ≤ n ∧ n ≤ 1000 ∧ PP = Is (eRow (List.replicate n 0))
theorem ok_noughts {f : Addr} {fd : FuncData} (B : Bt K mg) (F : Fun K "noughts" "noughts" s_noughts f fd) : FnOk P w K mg base CX0 1 f fd ["many"] (spP K R_noughts) := by
  refine fn_pure (N := n_noughts) F c_noughts (fun ds PP h => ?_) (fun cdv A outer s H E hr ds PP h => ?_)
  · obtain ⟨n, rfl, _⟩ := h
    rfl
  · obtain ⟨n, rfl, h1, h2, rfl⟩ := h
    refine x_retIs (ev_repT (ev_tup (ea_cons (ev_zero B rfl) ea_nil)) (nm 0) h1 h2) ?_
    unfold eRow
    rw [List.map_replicate]
    rfl
def R_mean (ds : List PyData) (PP : PyData → Prop) : Prop := ∃ (ps : List (Rat × List Rat)) (n : Nat), ds = [.list (ps.map fun p => .tuple [eR p.1, eRow p.2]), .int (n : Int)] ∧ MeanOk ps n ∧ PP = Is (eRow (meanR ps n))
theorem ok_mean {f : Addr} {fd : FuncData} (B : Bt K mg) (F : Fun K "mean" "mean" s_mean f fd) (Gn : KP P w K mg base "noughts" 1 ["many"] R_noughts) (Gj : KP P w K mg base "joined" 3 ["one", "two"] R_joined) (Gs : KP P w K mg base "scaled" 3 ["row", "number"] R_scaled) : FnOk P w K mg base CX0 4 f fd ["pairs", "many"] (spP K R_mean) := by
  refine fn_pure (N := n_mean) F c_mean (fun ds PP h => ?_) (fun cdv A outer s H E hr ds PP h => ?_)
  · obtain ⟨ps, n, rfl, _⟩ := h
    rfl
  · obtain ⟨ps, n, rfl, ⟨hl, h1, h2, hp, hm⟩, rfl⟩ := h
    refine x_setIs (i := 2) c_mean.nd rfl (.inl rfl) (.inl rfl) (ev_call Gn (hr.mono (by decide)) rfl (ea_cons (nm 1) ea_nil) ⟨n, rfl, h1, h2, rfl⟩) ?_
    refine x_for PassesOwn.never rfl (it_list (nm 0)) (fun _ i es => ∃ e3 e4, es = [.val (.list (ps.map fun p => .tuple [eR p.1, eRow p.2])), .val (.int (n : Int)), .val (eRow (meanR (ps.take i) n)), e3, e4]) (fun items p => ⟨_, _, rfl⟩) (fun items p i d es1 hd ⟨e3, e4, he⟩ => ?_) (fun items p es1 ⟨e3, e4, he⟩ => ?_)
    · have p' := p
      unfold Ab.IsL at p'
      subst p' he
      obtain ⟨hi, rfl⟩ := get_of_map hd
      obtain ⟨a1, a2, a3⟩ := hp _ (List.getElem_mem hi)
      refine ⟨_, _, tg_pair (i := 3) (j := 4) rfl c_mean.nd rfl (.inl rfl) (.inl rfl) rfl (.inl rfl) (.inl rfl), ?_⟩
      refine x_setIs (i := 2) c_mean.nd rfl (.inl rfl) (.inl rfl) (ev_call Gj hr rfl (ea_cons (nm 2) (ea_cons (ev_call Gs hr rfl (ea_cons (nm 4) (ea_cons (nm 3) ea_nil)) ⟨_, _, rfl, a2, a1, rfl⟩) ea_nil)) ⟨_, _, rfl, hm i (by omega), a3, rfl⟩) (x_nil ⟨.val (eR ps[i].1), .val (eRow ps[i].2), ?_⟩)
      rw [meanR_take hi]
      rfl
    · have p' := p
      unfold Ab.IsL at p'
      subst p' he
      refine x_retIs (nm 2) ?_
      rw [List.length_map, List.take_length]
      rfl
def R_plain_odds (ds : List PyData) (PP : PyData → Prop) : Prop := ∃ (d : Int) (n : Nat), ds = [.int d, .int (n : Int)] ∧ n ≤ 1000 ∧ PP = Is (eRow (plainOdds d n))
theorem ok_plain_odds {f : Addr} {fd : FuncData} (B : Bt K mg) (F : Fun K "plain_odds" "plain_odds" s_plain_odds f fd) : FnOk P w K mg base CX0 1 f fd ["deed", "many"] (spP K R_plain_odds) := by
  refine fn_pure (N := n_plain_odds) F c_plain_odds (fun ds PP h => ?_) (fun cdv A outer s H E hr ds PP h => ?_)
  · obtain ⟨d, n, rfl, _⟩ := h
    rfl
  · obtain ⟨d, n, rfl, hn, rfl⟩ := h
    refine x_retIs (ev_tupOf rfl B.tuple (lc1 (xs := List.range n) (enc := fun (i : Nat) => .int (i : Int)) (g := fun (i : Nat) => eR (if (i : Int) = d then 1 else 0)) 2 c_plain_odds.nd (IterL.c (it_rangeE rfl B.range (nm 1) (by omega))) (blkOk_by (N := n_plain_odds) (sc := defScope s_plain_odds) (by decide +kernel)) (by rw [List.length_range]; omega) fun i hi s0 H0 C cl fp => ?_)) ?_
    · refine ev_if (et_eqI (nm 2) (nm 0)) (fun h => ?_) (fun h => ?_)
      · rw [if_pos (of_decide_eq_true h.symm)]
        exact ev_one' B rfl
      · rw [if_neg (of_decide_eq_false h.symm)]
        exact ev_zero B rfl
    · unfold eRow plainOdds
      rw [List.map_map]
      rfl
def R_less_row (ds : List PyData) (PP : PyData → Prop) : Prop := ∃ (x y : List Rat) (q : Rat), ds = [eLst x, eLst y, eR q] ∧ Row0 x ∧ Row0 y ∧ S0 q ∧ (∀ a ∈ y, S0 (q * a)) ∧ PP = Is (eLst (subMul x y q))
theorem ok_less_row {f : Addr} {fd : FuncData} (B : Bt K mg) (F : Fun K "less_row" "less_row" s_less_row f fd) (Gi : KP P w K mg base "minus" 2 ["one", "two"] R_minus) (Gm : KP P w K mg base "times" 2 ["one", "two"] R_times) : FnOk P w K mg base CX0 3 f fd ["row", "lead", "by"] (spP K R_less_row) := by
  refine fn_pure (N := n_less_row) F c_less_row (fun ds PP h => ?_) (fun cdv A outer s H E hr ds PP h => ?_)
  · obtain ⟨x, y, q, rfl, _⟩ := h
    rfl
  · obtain ⟨x, y, q, rfl, hx, hy, hq, hm, rfl⟩ := h
    refine x_retIs (EvalN.is (lc2 (xs := x.zip y) (e1 := eR) (e2 := eR) (g := fun p => eR (p.1 - q * p.2)) 3 4 c_less_row.nd (IterL.c (it_zipE rfl B.zip (nm 0) (nm 1) (.inl rfl) (.inl rfl))) (blkOk_by (N := n_less_row) (sc := defScope s_less_row) (by decide +kernel)) (zip_len hx.1) fun p hp s0 H0 C cl fp => ?_)) ?_
    · exact ev_call Gi hr rfl (ea_cons (nm 3) (ea_cons (ev_call Gm hr rfl (ea_cons (nm 2) (ea_cons (nm 4) ea_nil)) ⟨_, _, rfl, hq, hy.2 _ (zip_mem_r hp), rfl⟩) ea_nil)) ⟨_, _, rfl, hx.2 _ (zip_mem_l hp), hm _ (zip_mem_r hp), rfl⟩
    · unfold eLst subMul
      rw [List.map_map]
      rfl

/-! ### checks -/
def R_between (ds : List PyData) (PP : PyData → Prop) : Prop := ∃ v lo hi : Int, ds = [.int v, .int lo, .int hi] ∧ PP = Is (.bool (decide (lo ≤ v) && decide (v ≤ hi)))
theorem ok_is_between {f : Addr} {fd : FuncData} (B : Bt K mg) (F : Fun K "is_between" "is_between" s_is_between f fd) (Gw : KP P w K mg base "is_whole" 1 ["value"] R_whole) : FnOk P w K mg base CX0 2 f fd ["value", "low", "high"] (spP K R_between) := by
  refine fn_pure (N := n_is_between) F c_is_between (fun ds PP h => ?_) (fun cdv A outer s H E hr ds PP h => ?_)
  · obtain ⟨v, lo, hi, rfl, _⟩ := h
    rfl
  · obtain ⟨v, lo, hi, rfl, rfl⟩ := h
    exact x_retIs (ev_and (ev_call Gw hr rfl (ea_cons (nm 0) ea_nil) ⟨v, rfl, rfl⟩) fun _ => Ab.ev_one (ev_chainI op_le op_le (nm 1) (nm 0) (nm 2))) (by rw [Bool.true_and]; rfl)
def R_is_ratio (ds : List PyData) (PP : PyData → Prop) : Prop := ∃ q : Rat, ds = [eR q] ∧ PP = Is (.bool true)
theorem ok_is_ratio {f : Addr} {fd : FuncData} (B : Bt K mg) (F : Fun K "is_ratio" "is_ratio" s_is_ratio f fd) (Gt : KP P w K mg base "is_tuple_of" 1 ["value", "many"] R_tup) (Gw : KP P w K mg base "is_whole" 1 ["value"] R_whole) : FnOk P w K mg base CX0 2 f fd ["value"] (spP K R_is_ratio) := by
  refine fn_pure (N := n_is_ratio) F c_is_ratio (fun ds PP h => ?_) (fun cdv A outer s H E hr ds PP h => ?_)
  · obtain ⟨q, rfl, _⟩ := h
    rfl
  · obtain ⟨q, rfl, rfl⟩ := h
    have hq : 0 < (q.den : Int) := by
      have := q.den_pos
      omega
    have hgc : ((Nat.gcd q.num.natAbs ((q.den : Int)).natAbs : Nat) : Int) = 1 := by
      rw [Int.natAbs_natCast]
      have : Nat.gcd q.num.natAbs q.den = 1 := q.reduced
      rw [this]
      rfl
    refine x_if (Pc := IsB false) (N1 := fun es1 => es1 = entry n_is_ratio.length [eR q]) (et_w (ew_or (P1 := IsB false) (et_notB (k := true) (et_is (ev_call Gt hr rfl (ea_cons (nm 0) (ea_cons ev_int ea_nil)) ⟨[.int q.num, .int (q.den : Int)], 2, rfl, rfl⟩)))
      (fun _ => ew_or (P1 := IsB false) (et_notB (k := true) (et_is (ev_call Gw hr rfl (ea_cons (ev_ixT (nm 0) ev_int rfl) ea_nil) ⟨q.num, rfl, rfl⟩)))
        (fun _ => ew_or1 (et_notB (k := true) (et_is (ev_call Gw hr rfl (ea_cons (ev_ixT (nm 0) ev_int rfl) ea_nil) ⟨(q.den : Int), rfl, rfl⟩)))) (fun h => nomatch h)) (fun h => nomatch h))) (fun h => nomatch h) (fun _ => x_nil rfl) ?_
    rintro es1 rfl
    refine x_retIs (ev_and (ev_gt (ev_ixT (nm 0) ev_int rfl) ev_int) fun _ => Ab.ev_one (ev_eqI (ev_callM cr_gcd rfl B.gcd (ea_cons (ev_ixT (nm 0) ev_int rfl) (ea_cons (ev_ixT (nm 0) ev_int rfl) ea_nil)) (by rintro _ rfl; exact cd_gcd)) ev_int)) ?_
    rw [hgc, decide_eq_true hq]
    rfl
def R_is_row (ds : List PyData) (PP : PyData → Prop) : Prop := ∃ (l : List Rat), ds = [eRow l, .int (l.length : Int)] ∧ l.length ≤ 1000 ∧ PP = Is (.bool true)
theorem ok_is_row {f : Addr} {fd : FuncData} (B : Bt K mg) (F : Fun K "is_row" "is_row" s_is_row f fd) (Gt : KP P w K mg base "is_tuple_of" 1 ["value", "many"] R_tup) (Gr : KP P w K mg base "is_ratio" 2 ["value"] R_is_ratio) : FnOk P w K mg base CX0 3 f fd ["value", "many"] (spP K R_is_row) := by
  refine fn_pure (N := n_is_row) F c_is_row (fun ds PP h => ?_) (fun cdv A outer s H E hr ds PP h => ?_)
  · obtain ⟨l, rfl, _⟩ := h
    rfl
  · obtain ⟨l, rfl, hl, rfl⟩ := h
    refine x_retIs (ev_and (k := true) (Eval.to (ev_call Gt (hr.mono (by decide)) rfl (ea_cons (nm 0) (ea_cons (nm 1) ea_nil)) ⟨l.map eR, (l.length : Int), rfl, rfl⟩) (by rw [List.length_map, decide_eq_true rfl])) fun _ => Ab.ev_one (ev_allT (xs := l) rfl rfl B.all
      (lc1 (xs := l) (enc := eR) (g := fun _ => .bool true) 2 c_is_row.nd (IterL.c (it_tup (nm 0))) (blkOk_by (N := n_is_row) (sc := defScope s_is_row) (by decide +kernel)) (by omega) fun a ha s0 H0 C cl fp => ?_))) rfl
    exact ev_call Gr hr rfl (ea_cons (nm 2) ea_nil) ⟨a, rfl, rfl⟩

/-! ### the least one -/
def R_least_at (ds : List PyData) (PP : PyData → Prop) : Prop := ∃ (l : List Rat), ds = [eRow l] ∧ l ≠ [] ∧ l.length ≤ 1000 ∧ (∀ x ∈ l, Sz 100000 100000 x) ∧ PP = Is (.int (leastIx l : Int))
theorem leastIx_lt (l : List Rat) (h : 0 < l.length) : ∀ n, n ≤ l.length → (List.range n).foldl (fun at' i => if l.getD i 0 < l.getD at' 0 then i else at') 0 < l.length := by
  intro n
  induction n with
  | zero => intro _; exact h
  | succ n ih =>
    intro hn
    rw [List.range_succ, List.foldl_append]
    show (if _ then n else _) < _
    split
    · omega
    · exact ih (by omega)
theorem ok_least_at {f : Addr} {fd : FuncData} (B : Bt K mg) (F : Fun K "least_at" "least_at" s_least_at f fd) (Gl : KP P w K mg base "is_less" 1 ["one", "two"] R_less) : FnOk P w K mg base CX0 2 f fd ["row"] (spP K R_least_at) := by
  refine fn_pure (N := n_least_at) F c_least_at (fun ds PP h => ?_) (fun cdv A outer s H E hr ds PP h => ?_)
  · obtain ⟨l, rfl, _⟩ := h
    rfl
  · obtain ⟨l, rfl, hne, hl, hs, rfl⟩ := h
    have h0 : 0 < l.length := List.length_pos_iff.mpr hne
    refine x_setIs (i := 1) c_least_at.nd rfl (.inl rfl) (.inl rfl) ev_int ?_
    refine x_for PassesOwn.never rfl (it_enumE (xs := l) (e1 := eR) rfl B.enumerate (nm 0) (.inr rfl)) (fun _ i es => ∃ e2 e3, es = [.val (eRow l), .val (.int (((List.range i).foldl (fun at' i => if l.getD i 0 < l.getD at' 0 then i else at') 0 : Nat) : Int)), e2, e3]) (fun items p => ⟨_, _, rfl⟩) (fun items p i d es1 hd ⟨e2, e3, he⟩ => ?_) (fun items p es1 ⟨e2, e3, he⟩ => ?_)
    · have p' := p
      unfold Ab.IsL at p'
      subst p' he
      obtain ⟨hi, rfl⟩ := get_of_map hd
      have hi' : i < l.length := by simpa using hi
      have hk := leastIx_lt l h0 i (by omega)
      generalize hkk : (List.range i).foldl (fun at' i => if l.getD i 0 < l.getD at' 0 then i else at') 0 = k at hk
      have ez : (l.zipIdx)[i] = (l[i], i) := by simp
      rw [ez]
      refine ⟨_, _, tg_pair (i := 2) (j := 3) rfl c_least_at.nd rfl (.inl rfl) (.inl rfl) rfl (.inl rfl) (.inl rfl), ?_⟩
      have step : (List.range (i + 1)).foldl (fun at' i => if l.getD i 0 < l.getD at' 0 then i else at') 0 = if l[i] < l[k] then i else k := by
        rw [List.range_succ, List.foldl_append, hkk]
        show (if l.getD i 0 < l.getD k 0 then i else k) = _
        rw [List.getD_eq_getElem?_getD, List.getD_eq_getElem?_getD, List.getElem?_eq_getElem hi', List.getElem?_eq_getElem hk]
        rfl
      rw [step]
      refine x_if (N1 := fun es1 => ∃ e2 e3, es1 = [.val (eRow l), .val (.int ((if l[i] < l[k] then i else k : Nat) : Int)), e2, e3]) (et_is (ev_call Gl hr rfl (ea_cons (nm 3) (ea_cons (ev_ixT (nm 0) (nm 1) (at_row hk)) ea_nil)) ⟨_, _, rfl, hs _ (List.getElem_mem hi'), hs _ (List.getElem_mem hk), rfl⟩)) (fun h => ?_) (fun h => ?_) (fun es1 h => x_nil h)
      · rw [if_pos (of_decide_eq_true h.symm)]
        exact x_setIs (i := 1) c_least_at.nd rfl (.inl rfl) (.inl rfl) (nm 2) (x_nil ⟨.val (.int (i : Int)), .val (eR l[i]), rfl⟩)
      · rw [if_neg (of_decide_eq_false h.symm)]
        exact x_nil ⟨.val (.int (i : Int)), .val (eR l[i]), rfl⟩
    · have p' := p
      unfold Ab.IsL at p'
      subst p' he
      refine x_retIs (nm 1) ?_
      rw [List.length_map, List.length_zipIdx]
      rfl
end
end Dh

set_option maxHeartbeats 4000000
/-! Elimination: the mirror, answers_of, solved_worths. -/
namespace Dh
open PySem PySem.Spec PyProof.Rows L2 Ab

/-! ### the mirror -/
def row (c : Nat) (f : Nat → Rat) : List Rat := (List.range c).map f
def stp (k : Nat) (T : Nat → Nat → Rat) (i j : Nat) : Rat := if i = k then T k j / T k k else T i j - T i k * (T k j / T k k)
def elm (T : Nat → Nat → Rat) : Nat → Nat → Nat → Rat
  | 0 => T
  | k + 1 => stp k (elm T k)
structure ElimOk (n c : Nat) (T : Nat → Nat → Rat) : Prop where
  n1 : 1 ≤ n
  nn : n ≤ 100
  cc : c ≤ 100
  nc : n ≤ c
  sz : ∀ k, k ≤ n → ∀ i, i < n → ∀ j, j < c → Sz 1000 1000 (elm T k i j)
  pv : ∀ k, k < n → elm T k k k ≠ 0
def eTab (n c : Nat) (T : Nat → Nat → Rat) : List PyData := (List.range n).map fun i => eLst (row c (T i))
theorem row_len (c : Nat) (f : Nat → Rat) : (row c f).length = c := by
  unfold row
  rw [List.length_map, List.length_range]
theorem row_get {c : Nat} {f : Nat → Rat} {i : Nat} (h : i < (row c f).length) : (row c f)[i] = f i := by
  simp [row]
theorem row_mem {c : Nat} {f : Nat → Rat} {x : Rat} (h : x ∈ row c f) : ∃ j, j < c ∧ x = f j := by
  unfold row at h
  obtain ⟨j, hj, e⟩ := List.mem_map.mp h
  exact ⟨j, List.mem_range.mp hj, e.symm⟩
theorem row_congr {c : Nat} {f g : Nat → Rat} (h : ∀ j, j < c → f j = g j) : row c f = row c g := by
  unfold row
  apply List.map_congr_left
  intro j hj
  exact h j (List.mem_range.mp hj)
theorem at_row' {c i : Nat} {f : Nat → Rat} (h : i < c) : atI ((row c f).map eR) (i : Int) = some (eR (f i)) := by
  rw [at_row (by rw [row_len]; exact h), row_get]
theorem at_map {α : Type} {n i : Nat} {enc : Nat → α} (h : i < n) : atI ((List.range n).map enc) (i : Int) = some (enc i) := atI_nat (by rw [List.getElem?_map, List.getElem?_range h]; rfl)
theorem zip_same {α : Type} (l : List α) : l.zip l = l.map fun a => (a, a) := by
  induction l with
  | nil => rfl
  | cons a l ih =>
    simp only [List.zip_cons_cons, List.map_cons, ih]
theorem zip_row (c : Nat) (f g : Nat → Rat) : (row c f).zip (row c g) = (List.range c).map fun j => (f j, g j) := by
  unfold row
  rw [List.zip_map, zip_same, List.map_map]
  rfl
theorem subMul_row (c : Nat) (f g : Nat → Rat) (q : Rat) : subMul (row c f) (row c g) q = row c fun j => f j - q * g j := by
  unfold subMul
  rw [zip_row, List.map_map]
  rfl
theorem Sz.mul {a b c d : Nat} {x y : Rat} (hx : Sz a b x) (hy : Sz c d y) : Sz (a + c) (b + d) (x * y) := by
  refine ⟨?_, ?_⟩
  · rw [Rat.num_mul]
    refine Nat.lt_of_le_of_lt (m := (x.num * y.num).natAbs) ?_ ?_
    · rw [Int.natAbs_ediv_of_dvd]
      · exact Nat.div_le_self _ _
      · have h1 : (x.num * y.num).natAbs.gcd (x.den * y.den) ∣ (x.num * y.num).natAbs := Nat.gcd_dvd_left _ _
        exact Int.ofNat_dvd_left.mpr h1
    · rw [Int.natAbs_mul, Nat.pow_add]
      exact Nat.mul_lt_mul_of_lt_of_lt hx.1 hy.1
  · rw [Rat.den_mul]
    refine Nat.lt_of_le_of_lt (Nat.div_le_self _ _) ?_
    rw [Nat.pow_add]
    exact Nat.mul_lt_mul_of_lt_of_lt hx.2 hy.2
theorem row0_of {c : Nat} {f : Nat → Rat} (hc : c ≤ 1000) (h : ∀ j, j < c → S0 (f j)) : Row0 (row c f) := ⟨by rw [row_len]; exact hc, fun x hx => by
  obtain ⟨j, hj, rfl⟩ := row_mem hx
  exact h j hj⟩
theorem sz1000 {q : Rat} (h : Sz 1000 1000 q) : S0 q := h.mono (by decide) (by decide)
theorem eqv_int (i j : Int) : PyData.eqv (.int i) (.int j) = decide (i = j) := by
  simp only [PyData.eqv]
  by_cases h : i = j <;> simp [h]
theorem eqv_tup (xs ys : List PyData) : PyData.eqv (.tuple xs) (.tuple ys) = PyData.eqvAll xs ys := by
  simp only [PyData.eqv]
theorem eqvAll_map {α : Type} [DecidableEq α] (enc : α → PyData) (h : ∀ x y, PyData.eqv (enc x) (enc y) = decide (x = y)) : ∀ xs ys : List α, PyData.eqvAll (xs.map enc) (ys.map enc) = decide (xs = ys)
  | [], [] => by simp [PyData.eqvAll]
  | x :: xs, y :: ys => by
    simp only [List.map_cons, PyData.eqvAll, h, eqvAll_map enc h xs ys, List.cons.injEq]
    by_cases h1 : x = y <;> by_cases h2 : xs = ys <;> simp [h1, h2]
  | [], _ :: _ => by simp [PyData.eqvAll]
  | _ :: _, [] => by simp [PyData.eqvAll]
theorem eqv_R (x y : Rat) : PyData.eqv (eR x) (eR y) = decide (x = y) := by
  unfold eR
  rw [eqv_tup]
  simp only [PyData.eqvAll, eqv_int, Bool.and_true]
  have e : (x.num = y.num ∧ (x.den : Int) = (y.den : Int)) ↔ (x = y) := ⟨fun ⟨h1, h2⟩ => Rat.ext h1 (by omega), fun h => by rw [h]; exact ⟨rfl, rfl⟩⟩
  rw [← Bool.decide_and]
  exact decide_eq_decide.mpr e
theorem eqv_Row (x y : List Rat) : PyData.eqv (eRow x) (eRow y) = decide (x = y) := by
  unfold eRow
  rw [eqv_tup]
  exact eqvAll_map eR eqv_R x y
theorem shaped_R (x : Rat) : SeqAt.shaped (eR x) = true := rfl

section
variable {P : Program} {w : World} {K : PySem.W.Frag} {mg : Str → Option Value} {base : Heap}
def R_answers (ds : List PyData) (PP : PyData → Prop) : Prop := ∃ (n m : Nat) (T : Nat → Nat → Rat), ds = [.list (eTab n n T), .list ((List.range n).map fun i => eRow (row m fun j => T i (n + j)))] ∧ ElimOk n (n + m) T ∧ PP = Is (.list ((List.range n).map fun i => eRow ((row (n + m) (elm T n i)).drop n)))
theorem ixO {X : Cx} {es : List Sl} {pos p : Pos} {b : Expr} {x : Str} {xs : List PyData} {j : Int} {d : PyData} (i : Nat) (hb : Eval X b es (Is (.int j))) (h : atI xs j = some d) (he : es[i]? = some (.own xs) := by rfl) (hN : X.N[i]? = some x := by rfl) (hv : Vis X.env.scope x := by first | exact Or.inl rfl | exact Or.inr (Or.inl rfl) | exact Or.inr (Or.inr rfl)) (hs : PlainIx b := by exact fun _ _ => rfl)
    (hd : (x == ("__debug__" : Str)) = false := by decide) (hcd : (x == ("__classdict__" : Str)) = false := by decide) : Eval X (.Subscript (.Name x p) b pos) es (Is d) := ev_ixO he hN hv hb h hs hd hcd
theorem zip_same_mem {n : Nat} {p : Nat × Nat} (h : p ∈ (List.range n).zip (List.range n)) : p.2 = p.1 ∧ p.1 < n := by
  rw [zip_same] at h
  obtain ⟨a, ha, rfl⟩ := List.mem_map.mp h
  exact ⟨rfl, List.mem_range.mp ha⟩
theorem row_app (n m : Nat) (f : Nat → Rat) : row (n + m) f = row n f ++ row m fun j => f (n + j) := by
  unfold row
  rw [List.range_add, List.map_append, List.map_map]
  rfl
theorem map_row (c : Nat) (f : Nat → Rat) (g : Rat → PyData) : (row c f).map g = (List.range c).map fun j => g (f j) := by
  unfold row
  rw [List.map_map]
  rfl
theorem map_rowR (c : Nat) (f : Nat → Rat) (g : Rat → Rat) : ((row c f).map fun x => eR (g x)) = (row c fun j => g (f j)).map eR := by
  unfold row
  rw [List.map_map, List.map_map]
  rfl
theorem first_pivot {n k : Nat} {T : Nat → Nat → Rat} (hk : k < n) (h : T k k ≠ 0) : atI (((List.range' k (n - k)).filter fun a => !decide (T a k = 0)).map fun (a : Nat) => PyData.int (a : Int)) 0 = some (.int (k : Int)) := by
  have e : n - k = (n - k - 1) + 1 := by omega
  rw [e, List.range'_succ, List.filter_cons]
  have : (!decide (T k k = 0)) = true := by simp [h]
  rw [if_pos this]
  exact atI_nat (j := 0) (v := PyData.int (k : Int)) rfl
theorem set_self {α : Type} {l : List α} {i : Nat} {a : α} (h : l[i]? = some a) : l.set i a = l := by
  obtain ⟨h1, h2⟩ := List.getElem?_eq_some_iff.mp h
  rw [← h2]
  exact List.set_getElem_self h1
theorem tab_len (n c : Nat) (T : Nat → Nat → Rat) : (eTab n c T).length = n := by
  unfold eTab
  rw [List.length_map, List.length_range]
theorem tab_at {n c k : Nat} {T : Nat → Nat → Rat} (h : k < n) : (eTab n c T)[k]? = some (eLst (row c (T k))) := by
  unfold eTab
  rw [List.getElem?_map, List.getElem?_range h]
  rfl
theorem tab_set {n c k : Nat} {T : Nat → Nat → Rat} (h : k < n) : ((List.range n).map fun i => eLst (subMul (row c (T i)) (row c fun j => T k j / T k k) (T i k))).set k (eLst (row c fun j => T k j / T k k)) = eTab n c (stp k T) := by
  unfold eTab
  apply List.ext_getElem?
  intro i
  rw [List.getElem?_set]
  by_cases hi : i < n
  · by_cases hik : k = i
    · subst hik
      rw [if_pos rfl, if_pos (by rw [List.length_map, List.length_range]; exact h), List.getElem?_map, List.getElem?_range hi]
      show _ = some (eLst (row c (stp k T k)))
      congr 2
      apply row_congr
      intro j _
      unfold stp
      rw [if_pos rfl]
    · rw [if_neg hik, List.getElem?_map, List.getElem?_map, List.getElem?_range hi]
      show some (eLst (subMul (row c (T i)) (row c fun j => T k j / T k k) (T i k))) = some (eLst (row c (stp k T i)))
      congr 2
      rw [subMul_row]
      apply row_congr
      intro j _
      unfold stp
      rw [if_neg (fun e => hik e.symm)]
  · have e : (List.range n)[i]? = none := by simp; omega
    rw [if_neg (by omega), List.getElem?_map, List.getElem?_map, e]
    rfl
theorem rangeD_map2 (k n : Nat) : rangeD (k : Int) n = (List.range' k n).map fun (a : Nat) => PyData.int (a : Int) := by
  unfold rangeD
  rw [List.range'_eq_map_range, List.map_map]
  apply List.map_congr_left
  intro i _
  show PyData.int _ = PyData.int _
  congr 1
theorem ok_answers_of {f : Addr} {fd : FuncData} (B : Bt K mg) (F : Fun K "answers_of" "answers_of" s_answers_of f fd) (Go : KP P w K mg base "over" 2 ["one", "two"] R_over) (Gl : KP P w K mg base "less_row" 3 ["row", "lead", "by"] R_less_row) : FnOk P w K mg base CX0 4 f fd ["table", "rights"] (spP K R_answers) := by
  refine fn_pure (N := n_answers_of) F c_answers_of (fun ds PP h => ?_) (fun cdv A outer s H E hr ds PP h => ?_)
  · obtain ⟨n, m, T, rfl, _⟩ := h
    rfl
  · obtain ⟨n, m, T, rfl, ok, rfl⟩ := h
    have hn := ok.nn
    have hc := ok.cc
    refine x_ownIs (ds := eTab n (n + m) T) (i := 2) c_answers_of.nd rfl (.inr rfl) (.inl rfl) (EvalN.to (lc2 (xs := (List.range n).zip (List.range n)) (e1 := fun i => eLst (row n (T i))) (e2 := fun i => eRow (row m fun j => T i (n + j))) (g := fun p => .list ((row n (T p.1)).map eR ++ (row m fun j => T p.2 (n + j)).map eR)) 7 8 c_answers_of.nd (IterL.c (it_to (it_zipE (xs := List.range n) (ys := List.range n) (e1 := fun i => eLst (row n (T i))) (e3 := fun i => eRow (row m fun j => T i (n + j))) rfl B.zip (nm 0) (nm 1) (.inl rfl) (.inl rfl)) rfl)) (blkOk_by (N := n_answers_of) (sc := defScope s_answers_of) (by decide +kernel)) (by rw [List.length_zip, List.length_range]; omega) fun p hp s0 H0 C cl fp => ?_) ?_) ?_
    · obtain ⟨e, hi⟩ := zip_same_mem hp
      exact EvalN.is (en_cat (EvalN.is (en_list rfl B.list (.inl (nm 7)))) (EvalN.is (en_list rfl B.list (.inr (nm 8)))) (by rw [List.length_map, List.length_map, row_len, row_len]; omega))
    · rw [zip_same, List.map_map]
      unfold eTab
      apply List.map_congr_left
      intro i _
      show PyData.list _ = PyData.list _
      rw [row_app, List.map_append]
    refine x_setIs (i := 3) c_answers_of.nd rfl (.inr rfl) (.inl rfl) (Eval.to (ev_lenL rfl B.len (nm 0)) (congrArg (fun (z : Nat) => PyData.int (z : Int)) (tab_len n n T))) ?_
    refine x_for PassesOwn.never rfl (it_rangeE rfl B.range (nm 3) (by omega)) (fun _ k es => ∃ e4 e5 e6, es = [.val (.list (eTab n n T)), .val (.list ((List.range n).map fun i => eRow (row m fun j => T i (n + j)))), .own (eTab n (n + m) (elm T k)), .val (.int (n : Int)), e4, e5, e6, .no, .no, .no, .no]) (fun items p => ⟨_, _, _, rfl⟩) (fun items p k d es1 hd ⟨e4, e5, e6, he⟩ => ?_) (fun items p es1 ⟨e4, e5, e6, he⟩ => ?_)
    · have p' := p
      unfold Ab.IsL at p'
      subst p' he
      obtain ⟨hi, rfl⟩ := get_of_map hd
      have hk : k < n := by simpa using hi
      have er : (List.range n)[k] = k := by simp
      rw [er]
      have hpv := ok.pv k hk
      have hsz := ok.sz k (by omega)
      have hl : k < (eTab n (n + m) (elm T k)).length := by rw [tab_len]; exact hk
      refine ⟨_, _, tg_name (i := 4) c_answers_of.nd rfl (.inr rfl) (.inl rfl), ?_⟩
      refine x_setIs (i := 5) c_answers_of.nd rfl (.inl rfl) (.inl rfl) (ev_ixL (EvalN.is (lc1F (xs := List.range' k (n - k)) (enc := fun (a : Nat) => .int (a : Int)) (g := fun (a : Nat) => .int (a : Int)) (f := fun a => !decide (elm T k a k = 0)) 9 c_answers_of.nd (IterL.c (it_to (it_range2 rfl B.range (nm 4) (nm 3) ⟨by omega, by omega⟩) (rangeD_map2 k (n - k)))) (blkOk_by (N := n_answers_of) (sc := defScope s_answers_of) (by decide +kernel)) (by rw [List.length_range']; omega) (fun a ha s0 H0 C cl fp => ?_) (fun a ha _ s0 H0 C cl fp => nm 9))) ev_int (first_pivot hk hpv)) ?_
      · have ha' : a < n := by
          have := List.mem_range'_1.mp ha
          omega
        exact EvalT.to (et_neD hr.units (ev_ixL (ixO 2 (nm 9) (atI_nat (tab_at ha'))) (nm 4) (at_row' (by omega))) (ev_zero B rfl) (shaped_R _) (shaped_R _)) (by rw [eqv_R])
      have hx : (eTab n (n + m) (elm T k)).set k (eLst (row (n + m) (elm T k k))) = eTab n (n + m) (elm T k) := set_self (tab_at hk)
      refine x_put2 (i := 2) (d1 := eLst (row (n + m) (elm T k k))) (d2 := eLst (row (n + m) (elm T k k))) rfl rfl rfl (.inr (.inl rfl)) (ev_tup (ea_cons (ixO 2 (nm 5) (atI_nat (tab_at hk))) (ea_cons (ixO 2 (nm 4) (atI_nat (tab_at hk))) ea_nil))) (nm 4) (nm 5) hl hl ?_
      rw [hx, hx]
      have hs1 : ∀ j, j < n + m → Sz 1000 1000 (elm T k k j / elm T k k k) := fun j hj => by
        have z := ok.sz (k + 1) (by omega) k hk j hj
        have e : elm T (k + 1) k j = elm T k k j / elm T k k k := by
          show stp k (elm T k) k j = _
          unfold stp
          rw [if_pos rfl]
        rw [e] at z
        exact z
      refine x_setIs (i := 6) (d := eLst (row (n + m) fun j => elm T k k j / elm T k k k)) c_answers_of.nd rfl (.inr rfl) (.inl rfl) (EvalN.is (EvalN.to (lc1 (xs := row (n + m) (elm T k k)) (enc := eR) (g := fun x => eR (x / elm T k k k)) 10 c_answers_of.nd (IterL.c (it_list (ixO 2 (nm 4) (atI_nat (tab_at hk))))) (blkOk_by (N := n_answers_of) (sc := defScope s_answers_of) (by decide +kernel)) (by rw [row_len]; omega) fun x hx s0 H0 C cl fp => ?_) (map_rowR _ _ fun x => x / elm T k k k))) ?_
      · obtain ⟨j, hj, rfl⟩ := row_mem hx
        exact ev_call (Go.mono (by decide : 2 ≤ 3)) hr rfl (ea_cons (nm 10) (ea_cons (ev_ixL (ixO 2 (nm 4) (atI_nat (tab_at hk))) (nm 4) (at_row' (by omega))) ea_nil)) ⟨_, _, rfl, sz1000 (hsz k hk j hj), sz1000 (hsz k hk k (by omega)), hpv, rfl⟩
      refine x_ownIs (i := 2) c_answers_of.nd rfl (.inr rfl) (.inl rfl) (lc1 (xs := List.range n) (enc := fun i => eLst (row (n + m) (elm T k i))) (g := fun i => eLst (subMul (row (n + m) (elm T k i)) (row (n + m) fun j => elm T k k j / elm T k k k) (elm T k i k))) 7 c_answers_of.nd (it_own (i := 2) rfl rfl (.inr (.inl rfl))) (blkOk_by (N := n_answers_of) (sc := defScope s_answers_of) (by decide +kernel)) (by rw [List.length_range]; omega) fun i hi s0 H0 C cl fp => ?_) ?_
      · have hi := List.mem_range.mp hi
        refine ev_call Gl hr rfl (ea_cons (nm 7) (ea_cons (nm 6) (ea_cons (ev_ixL (nm 7) (nm 4) (at_row' (by omega))) ea_nil))) ⟨_, _, _, rfl, row0_of (by omega) fun j hj => sz1000 (hsz i hi j hj), row0_of (by omega) fun j hj => sz1000 (hs1 j hj), sz1000 (hsz i hi k (by omega)), fun a ha => ?_, rfl⟩
        obtain ⟨j, hj, rfl⟩ := row_mem ha
        exact ((hsz i hi k (by omega)).mul (hs1 j hj)).mono (by decide) (by decide)
      refine x_put (i := 2) rfl rfl (.inr (.inl rfl)) (nm 6) (nm 4) (by rw [List.length_map, List.length_range]; exact hk) ?_
      rintro _ rfl
      refine x_nil ⟨.val (.int (k : Int)), .val (.int (k : Int)), .val (eLst (row (n + m) fun j => elm T k k j / elm T k k k)), ?_⟩
      show [_, _, Sl.own (((List.range n).map fun i => eLst (subMul (row (n + m) (elm T k i)) (row (n + m) fun j => elm T k k j / elm T k k k) (elm T k i k))).set k (eLst (row (n + m) fun j => elm T k k j / elm T k k k))), _, _, _, _, _, _, _, _] = _
      rw [tab_set hk]
      rfl
    · have p' := p
      unfold Ab.IsL at p'
      subst p' he
      rw [List.length_map, List.length_range]
      refine x_retIs (EvalN.is (lc1 (xs := List.range n) (enc := fun i => eLst (row (n + m) (elm T n i))) (g := fun i => eRow ((row (n + m) (elm T n i)).drop n)) 7 c_answers_of.nd (it_own (i := 2) rfl rfl (.inr (.inl rfl))) (blkOk_by (N := n_answers_of) (sc := defScope s_answers_of) (by decide +kernel)) (by rw [List.length_range]; omega) fun i hi s0 H0 C cl fp => ?_)) rfl
      exact Eval.to (ev_tupOf rfl B.tuple (en_from (nm 7) (nm 3))) (by unfold eRow; rw [List.map_drop])
end
end Dh

set_option maxHeartbeats 4000000
/-! name = [..] for a plain local name. -/
namespace Ab
open PySem PySem.Spec PyProof.Rows L2

section
variable {X : Cx} {es : List Sl} {N : List Sl → Prop} {R : RP} {rest : List Stmt} {pos : Pos} {iter tg elt : Expr} {ifs : List Expr} {scope : Scope} {own : List (Str × Nat)} {α : Type}
theorem x_lcF {xs : List α} {enc : α → PyData} {f : α → Bool} {g : α → PyData} {i : Nat} {y : Str} {py spos : Pos} (hc : X.calm = true) (hN : X.N.Nodup) (hy : X.N[i]? = some y) (hyl : X.env.scope.names.lookup y = some .local)
    (hsw : swapsWith (.ListComp elt [⟨tg, iter, ifs, 0⟩] scope pos) (some (.Name y py)) spos.line X.env = pure true) (hi : IterC X tg iter es (IsL (xs.map enc))) (ok : BlkOk X.N X.env.scope scope own) (hw : ∀ i ∈ own.map (·.2), es[i]? = some .no) (hl : xs.length ≤ 100000)
    (hb : ∀ x ∈ xs, TurnC X scope tg ifs elt (own.map (·.2)) es (enc x) (f x) (Is (g x))) (k : Exec X rest (es.set i (.own ((xs.filter f).map g))) N R) (hf : ∀ x, foldedSetIterable iter X.env x = pure x := by intro _; rfl) :
    Exec X (.Assign [.Name y py] (.ListComp elt [⟨tg, iter, ifs, 0⟩] scope pos) spos :: rest) es N R := fun W O σ H S D qn qr => by
  refine tss_of (pss_cons (ps_setLc hc hN hy hyl hsw pi_s ok (g := TGB X scope tg) (tt := TPB X scope ifs) (te := TEB X scope elt) (fun s H C cl fp => ⟨fun pins s1 _ _ _ u _ I r h => (h s H C cl fp).go pins s1 u I r⟩)
    (fun s H C cl fp => ⟨fun pins s1 σ1 H1 Q1 I h => by
      obtain ⟨t, ht, q1⟩ := h s H C cl fp
      exact ht.run pins s1 σ1 H1 Q1 I q1⟩) (fun s H C cl fp => ⟨fun pins s1 _ _ _ I h => (h s H C cl fp).go pins s1 I⟩) hf) pss_s) ?_
  show tLc (TIs X tg iter) (TGB X scope tg) (TPB X scope ifs) (TEB X scope elt) (own.map (·.2)) σ H (fun x H1 => TSs X rest D (σ.set i (some x)) H1)
  exact (lc_read hi hw hl hb S fun a vs H' fx S' n m r => k W (a :: O) _ H' (S.ownNew fx S' n m r) D (fun O' σ' H2 es' n2 t S2 => qn O' σ' H2 es' n2 ((Trn.newOwn S fx n).trans t) S2) qr)
theorem x_lc {xs : List α} {enc : α → PyData} {g : α → PyData} {i : Nat} {y : Str} {py spos : Pos} (hc : X.calm = true) (hN : X.N.Nodup) (hy : X.N[i]? = some y) (hyl : X.env.scope.names.lookup y = some .local)
    (hsw : swapsWith (.ListComp elt [⟨tg, iter, [], 0⟩] scope pos) (some (.Name y py)) spos.line X.env = pure true) (hi : IterC X tg iter es (IsL (xs.map enc))) (ok : BlkOk X.N X.env.scope scope own) (hw : ∀ i ∈ own.map (·.2), es[i]? = some .no) (hl : xs.length ≤ 100000)
    (hb : ∀ x ∈ xs, TurnC X scope tg [] elt (own.map (·.2)) es (enc x) true (Is (g x))) (k : Exec X rest (es.set i (.own (xs.map g))) N R) (hf : ∀ x, foldedSetIterable iter X.env x = pure x := by intro _; rfl) :
    Exec X (.Assign [.Name y py] (.ListComp elt [⟨tg, iter, [], 0⟩] scope pos) spos :: rest) es N R := x_lcF (f := fun _ => true) hc hN hy hyl hsw hi ok hw hl hb (by rw [filter_yes]; exact k) hf
end
end Ab
namespace Dh
open PySem PySem.Spec PyProof.Rows L2 Ab
section
variable {X : Cx} {es : List Sl} {N : List Sl → Prop} {R : RP} {rest : List Stmt} {pos spos py : Pos} {iter elt : Expr} {scope : Scope} {y : Str}
/-- y = [elt for a, b in iter]: y a plain local name at place m -/
theorem x_lc2 {β γ : Type} {xs : List (β × γ)} {e1 : β → PyData} {e2 : γ → PyData} {g : β × γ → PyData} (m i k : Nat) {x z : Str} {px pz pt : Pos} {kk : Nat} (hN : X.N.Nodup) (hi : IterC X (.Tuple [.Name x px, .Name z pz] kk pt) iter es (Ab.IsL (xs.map fun p => .tuple [e1 p.1, e2 p.2]))) (ok : BlkOk X.N X.env.scope scope [(x, i), (z, k)]) (hl : xs.length ≤ 100000)
    (hb : ∀ p ∈ xs, ∀ s0 H0 C cl fp, Eval (Cb X scope s0 H0 C cl fp) elt ((es.set i (.val (e1 p.1))).set k (.val (e2 p.2))) (Is (g p))) (cont : Exec X rest (es.set m (.own (xs.map g))) N R)
    (hsw : swapsWith (.ListComp elt [⟨.Tuple [.Name x px, .Name z pz] kk pt, iter, [], 0⟩] scope pos) (some (.Name y py)) spos.line X.env = pure true := by exact sw_true rfl rfl rfl (by decide +kernel))
    (he : es[i]? = some .no := by rfl) (he2 : es[k]? = some .no := by rfl) (hc : X.calm = true := by rfl) (hm : X.N[m]? = some y := by rfl) (hyl : X.env.scope.names.lookup y = some .local := by rfl) (hx : X.N[i]? = some x := by rfl) (hz : X.N[k]? = some z := by rfl)
    (hlo : ∀ s0 H0 C cl fp, (Cb X scope s0 H0 C cl fp).env.scope.names.lookup x = some .local := by intros; rfl) (hlo2 : ∀ s0 H0 C cl fp, (Cb X scope s0 H0 C cl fp).env.scope.names.lookup z = some .local := by intros; rfl)
    (hs1 : ∀ s0 H0 C cl fp, (assignEach [.Name x px, .Name z pz] (Cb X scope s0 H0 C cl fp).env).map (·.2) = assign (.Name x px) (Cb X scope s0 H0 C cl fp).env :: (assignEach [.Name z pz] (Cb X scope s0 H0 C cl fp).env).map (·.2) := by intros; rfl)
    (hs2 : ∀ s0 H0 C cl fp, (assignEach [.Name z pz] (Cb X scope s0 H0 C cl fp).env).map (·.2) = assign (.Name z pz) (Cb X scope s0 H0 C cl fp).env :: (assignEach [] (Cb X scope s0 H0 C cl fp).env).map (·.2) := by intros; rfl)
    (hn : ∀ s0 H0 C cl fp, (assignEach [.Name x px, .Name z pz] (Cb X scope s0 H0 C cl fp).env).length = 2 := by intros; rfl) (hst : ∀ s0 H0 C cl fp, (assignEach [.Name x px, .Name z pz] (Cb X scope s0 H0 C cl fp).env).findIdx? (·.1) = none := by intros; rfl)
    (hf : ∀ x, foldedSetIterable iter X.env x = pure x := by intro _; rfl) : Exec X (.Assign [.Name y py] (.ListComp elt [⟨.Tuple [.Name x px, .Name z pz] kk pt, iter, [], 0⟩] scope pos) spos :: rest) es N R :=
  x_lc hc hN hm hyl hsw hi ok (hw2 he he2) hl (fun p hp => ⟨_, fun s0 H0 C cl fp => tg_pair (X := Cb X scope s0 H0 C cl fp) hc hN hx (.inl (hlo _ _ _ _ _)) (.inr (hlo _ _ _ _ _)) hz (.inl (hlo2 _ _ _ _ _)) (.inr (hlo2 _ _ _ _ _)) (hs1 _ _ _ _ _) (hs2 _ _ _ _ _) (hn _ _ _ _ _) (hst _ _ _ _ _), fun _ _ _ _ _ => es_nil, fun _ => hb p hp⟩) cont hf
end

/-! ### solved_worths -/
def aug (n : Nat) (s : Rat) (P G : Nat → Nat → Rat) (i j : Nat) : Rat := if j < n then (if j = i then 1 else 0) - s * P i j else G i (j - n)
theorem drop_row (n m : Nat) (f : Nat → Rat) : (row (n + m) f).drop n = row m fun j => f (n + j) := by
  rw [row_app, List.drop_left' (row_len n f)]
theorem zipIdx_rng {α : Type} (n : Nat) (f : Nat → α) : ((List.range n).map f).zipIdx = (List.range n).map fun j => (f j, j) := by
  apply List.ext_getElem?
  intro i
  rw [List.getElem?_zipIdx, List.getElem?_map, List.getElem?_map]
  by_cases h : i < n
  · rw [List.getElem?_range h]
    simp
  · have e : (List.range n)[i]? = none := by simp; omega
    rw [e]
    rfl
theorem s01 {p : Prop} [Decidable p] : S0 (if p then 1 else 0) := by
  split
  · exact ⟨by decide +kernel, by decide +kernel⟩
  · exact ⟨by decide +kernel, by decide +kernel⟩
section
variable {P : Program} {w : World} {K : PySem.W.Frag} {mg : Str → Option Value} {base : Heap}
def R_solved (ds : List PyData) (PP : PyData → Prop) : Prop := ∃ (n m : Nat) (s : Rat) (M G : Nat → Nat → Rat), ds = [eR s, .list ((List.range n).map fun i => eRow (row n (M i))), .list ((List.range n).map fun i => eRow (row m (G i)))] ∧ ElimOk n (n + m) (aug n s M G) ∧ S0 s ∧ (∀ i, i < n → ∀ j, j < n → S0 (M i j) ∧ S0 (s * M i j)) ∧ PP = Is (.tuple ((List.range n).map fun i => eRow (row m fun j => elm (aug n s M G) n i (n + j))))
theorem ok_solved_worths {f : Addr} {fd : FuncData} (B : Bt K mg) (F : Fun K "solved_worths" "solved_worths" s_solved_worths f fd) (Ga : KP P w K mg base "answers_of" 4 ["table", "rights"] R_answers) (Gi : KP P w K mg base "minus" 2 ["one", "two"] R_minus) (Gm : KP P w K mg base "times" 2 ["one", "two"] R_times) : FnOk P w K mg base CX0 5 f fd ["share", "moves", "gains"] (spP K R_solved) := by
  refine fn_pure (N := n_solved_worths) F c_solved_worths (fun ds PP h => ?_) (fun cdv A outer s H E hr ds PP h => ?_)
  · obtain ⟨n, m, s, M, G, rfl, _⟩ := h
    rfl
  · obtain ⟨n, m, sh, M, G, rfl, ok, hs, hM, rfl⟩ := h
    have hn := ok.nn
    refine x_ownIs (ds := []) (i := 3) c_solved_worths.nd rfl (.inl rfl) (.inl rfl) (el_lst ea_nil) ?_
    refine x_for PassesOwn.never rfl (it_enumE (xs := List.range n) (e1 := fun i => eRow (row n (M i))) rfl B.enumerate (nm 1) (.inl rfl)) (fun _ i es => ∃ e4 e5, es = [.val (eR sh), .val (.list ((List.range n).map fun i => eRow (row n (M i)))), .val (.list ((List.range n).map fun i => eRow (row m (G i)))), .own ((List.range i).map fun i => eLst (row n (aug n sh M G i))), e4, e5, .no, .no]) (fun items p => ⟨_, _, rfl⟩) (fun items p i d es1 hd ⟨e4, e5, he⟩ => ?_) (fun items p es1 ⟨e4, e5, he⟩ => ?_)
    · have p' := p
      unfold Ab.IsL at p'
      subst p' he
      obtain ⟨hi, rfl⟩ := get_of_map hd
      have hi' : i < n := by simpa using hi
      have ez : ((List.range n).zipIdx)[i] = (i, i) := by simp
      rw [ez]
      refine ⟨_, _, tg_pair (i := 4) (j := 5) rfl c_solved_worths.nd rfl (.inr rfl) (.inl rfl) rfl (.inl rfl) (.inl rfl), ?_⟩
      refine x_app (i := 3) rfl rfl (.inl rfl) (EvalN.is (EvalN.to (ds' := (row n (aug n sh M G i)).map eR) (lc2 (xs := (List.range n).map fun j => (j, M i j)) (e1 := fun (j : Nat) => .int (j : Int)) (e2 := eR) (g := fun q => eR ((if q.1 = i then 1 else 0) - sh * q.2)) 6 7 c_solved_worths.nd (IterL.c (it_to (it_enumE (xs := row n (M i)) (e1 := eR) rfl B.enumerate (nm 5) (.inr rfl)) ?_)) (blkOk_by (N := n_solved_worths) (sc := defScope s_solved_worths) (by decide +kernel)) (by rw [List.length_map, List.length_range]; omega) fun q hq s0 H0 C cl fp => ?_) ?_)) (by rw [List.length_map, List.length_range]; omega) ?_
      · unfold row
        rw [zipIdx_rng, List.map_map, List.map_map]
        rfl
      · obtain ⟨j, hj, rfl⟩ := List.mem_map.mp hq
        have hj := List.mem_range.mp hj
        refine ev_call (Gi.mono (by decide : 2 ≤ 4)) hr rfl (ea_cons (d := eR (if j = i then 1 else 0)) (ev_if (et_eqI (nm 6) (nm 4)) (fun h => ?_) (fun h => ?_)) (ea_cons (ev_call (Gm.mono (by decide : 2 ≤ 4)) hr rfl (ea_cons (nm 0) (ea_cons (nm 7) ea_nil)) ⟨_, _, rfl, hs, (hM i hi' j hj).1, rfl⟩) ea_nil)) ⟨_, _, rfl, s01, (hM i hi' j hj).2, rfl⟩
        · have e : j = i := by
            have := of_decide_eq_true h.symm
            omega
          rw [if_pos e]
          exact ev_one' B rfl
        · have e : ¬ j = i := fun e => of_decide_eq_false h.symm (by rw [e])
          rw [if_neg e]
          exact ev_zero B rfl
      · rw [List.map_map, map_row]
        apply List.map_congr_left
        intro j hj
        show eR _ = eR _
        unfold aug
        rw [if_pos (List.mem_range.mp hj)]
      · rintro _ rfl
        refine x_nil ⟨.val (.int (i : Int)), .val (eRow (row n (M i))), ?_⟩
        rw [List.range_succ, List.map_append]
        rfl
    · have p' := p
      unfold Ab.IsL at p'
      subst p' he
      rw [List.length_map, List.length_zipIdx, List.length_range]
      refine x_frz 3 rfl (x_retIs (ev_callTy call_tuple_of rfl B.tuple (by decide +kernel) (ea_cons (ev_call Ga hr rfl (ea_cons (nm 3) (ea_cons (nm 2) ea_nil)) ⟨n, m, aug n sh M G, ?_, ok, rfl⟩) ea_nil) (by rintro _ rfl; exact cd_tupL) (by decide) (by decide)) ?_)
      · unfold eTab
        congr 3
        apply List.map_congr_left
        intro i _
        congr 1
        apply row_congr
        intro j _
        unfold aug
        rw [if_neg (by omega), Nat.add_sub_cancel_left]
      · show _ = _
        congr 1
        apply List.map_congr_left
        intro i _
        rw [drop_row]
end
end Dh

set_option maxHeartbeats 4000000
/-! Tables: {k: v for ..}, x.get(k, d). -/
namespace Ab
open PySem PySem.Spec PyProof.Rows L2

theorem StO.setDct {K : PySem.W.Frag} {W : Vw} {O : List Addr} {H : Hp} {σ : L2.St} {es : List Sl} (S : StO K W O H σ es) (i : Nat) {a : Addr} {vs : List (Key × V)} {kvs : List (Int × PyData)} (ha : hid H O a = some (.dK vs)) (r : RpK K (hid H O) vs kvs) : StO K W O H (σ.set i (some (.ref a))) (es.set i (.dct kvs)) where
  sub := S.sub
  occ := S.occ
  frm := S.frm
  spr := S.spr
  slot := fun j e he => by
    by_cases hj : i = j
    · subst hj
      by_cases hl : i < es.length
      · rw [List.getElem?_set_self hl] at he
        have he := Option.some.inj he
        subst he
        exact ⟨a, vs, List.getElem?_set_self (by rw [S.len]; exact hl), ha, r⟩
      · rw [List.getElem?_eq_none (by rw [List.length_set]; omega)] at he
        cases he
    · rw [List.getElem?_set_ne hj] at he
      have q := S.slot j e he
      have z : (σ.set i (some (V.ref a)))[j]? = σ[j]? := List.getElem?_set_ne hj
      cases e with
      | no => trivial
      | val d =>
        obtain ⟨w, e1, r1⟩ := q
        exact ⟨w, z.trans e1, r1⟩
      | own xs =>
        obtain ⟨b, us, e1, r1⟩ := q
        exact ⟨b, us, z.trans e1, r1⟩
      | spr =>
        obtain ⟨b, e1, r1⟩ := q
        exact ⟨b, z.trans e1, r1⟩
      | scr ns =>
        obtain ⟨b, e1, r1⟩ := q
        exact ⟨b, z.trans e1, r1⟩
      | dct ks =>
        obtain ⟨b, us, e1, r1⟩ := q
        exact ⟨b, us, z.trans e1, r1⟩
  dist := fun j k xs ys b h1 h2 h3 h4 => by
    have nj : ∀ {j : Nat} {xs : List PyData}, (es.set i (Sl.dct kvs))[j]? = some (.own xs) → i ≠ j := fun {j xs} h z => by
      subst z
      by_cases hl : i < es.length
      · rw [List.getElem?_set_self hl] at h
        cases h
      · rw [List.getElem?_eq_none (by rw [List.length_set]; omega)] at h
        cases h
    have n1 := nj h1
    have n2 := nj h2
    rw [List.getElem?_set_ne n1] at h1 h3
    rw [List.getElem?_set_ne n2] at h2 h4
    exact S.dist j k xs ys b h1 h2 h3 h4
  len := by rw [List.length_set, List.length_set, S.len]
  o0 := S.o0

def lkD (kvs : List (Int × PyData)) (j : Int) (d0 : PyData) : PyData := ((kvs.find? fun p => decide (p.1 = j)).map (·.2)).getD d0
theorem rpK_get {K : PySem.W.Frag} {H : Hp} {z : V} {d0 : PyData} (rz : Rp K H z d0) (j : Int) : ∀ {vs : List (Key × V)} {kvs : List (Int × PyData)}, RpK K H vs kvs → Rp K H ((valV vs (.inl j)).getD z) (lkD kvs j d0)
  | [], [], _ => rz
  | [], _ :: _, h => nomatch h.keys
  | _ :: _, [], h => nomatch h.keys
  | (k, v) :: vs, (i, d) :: kvs, h => by
    have hk := h.keys
    rw [List.map_cons, List.map_cons] at hk
    injection hk with h1 h2
    have h1' : k = .inl i := h1
    subst h1'
    have hv := h.vals
    cases hv with
    | cons r1 r2 =>
      by_cases e : i = j
      · subst e
        rw [valV_pos rfl]
        unfold lkD
        rw [List.find?_cons_of_pos (by simp)]
        exact r1
      · rw [valV_neg (fun z => e (Sum.inl.inj z))]
        have := rpK_get rz j (vs := vs) (kvs := kvs) ⟨h2, r2⟩
        unfold lkD
        rw [List.find?_cons_of_neg (by simpa using e)]
        exact this
theorem valV_no {vs : List (Key × V)} {k : Key} (h : k ∉ vs.map (·.1)) : valV vs k = none := by
  unfold valV
  have : vs.find? (fun kv => decide (kv.1 = k)) = none := by
    rw [List.find?_eq_none]
    intro p hp hq
    exact h (List.mem_map.mpr ⟨p, hp, of_decide_eq_true hq⟩)
  rw [this]
  rfl

section
variable {X : Cx} {es : List Sl} {N : List Sl → Prop} {R : RP} {rest : List Stmt} {pos : Pos} {iter tg kx vx : Expr} {scope : Scope} {own : List (Str × Nat)} {α : Type}
def TurnD (X : Cx) (scope : Scope) (tg : Expr) (kx vx : Expr) (ix : List Nat) (es : List Sl) (d : PyData) (k : Int) (P : PyData → Prop) : Prop :=
  ∃ es', (∀ s0 H0 C cl fp, Tgt (Cb X scope s0 H0 C cl fp) tg ix es d es') ∧ (∀ s0 H0 C cl fp, Eval (Cb X scope s0 H0 C cl fp) kx es' (Is (.int k))) ∧ (∀ s0 H0 C cl fp, Eval (Cb X scope s0 H0 C cl fp) vx es' P)
theorem dc_read {xs : List α} {enc : α → PyData} {kf : α → Int} {g : α → PyData} (hi : IterC X tg iter es (IsL (xs.map enc))) (hw : ∀ i ∈ own.map (·.2), es[i]? = some .no) (hl : xs.length ≤ 100000) (nd : (xs.map kf).Nodup)
    (hb : ∀ x ∈ xs, TurnD X scope tg kx vx (own.map (·.2)) es (enc x) (kf x) (Is (g x)))
    {W : Vw} {O : List Addr} {σ : L2.St} {H : Hp} (S : StO X.K W O H σ es) {Q : VK} (q : ∀ a vs H', Fx W H H' → StO X.K W O H' σ es → hid H' O a = some (.dK vs) → RpK X.K (hid H' O) vs (xs.map fun x => (kf x, g x)) → Q (.ref a) H') :
    tDc (TIs X tg iter) (TGB X scope tg) (TPB X scope []) (TEB X scope kx) (TEB X scope vx) (own.map (·.2)) σ H Q := by
  refine hi W O σ H S _ fun J H1 items f1 S1 p1 y D hD => ?_
  have p1' : items = xs.map enc := p1
  subst p1'
  have hO : ∀ {H' : Hp}, Fx W H1 H' → StO X.K W (D :: O) H' (wipe σ (own.map (·.2))) es → StO X.K W O H' σ es := fun {H'} fx S' =>
    S1.fx fx fun a ha => (S'.spr a ha).2
  refine ⟨fun i m H' => m = xs.length - i ∧ i ≤ xs.length ∧ Fx W H1 H' ∧ StO X.K W (D :: O) H' (wipe σ (own.map (·.2))) es ∧ ∃ acc, H' D = some (.dK acc) ∧ RpK X.K (hid H' (D :: O)) acc ((xs.take i).map fun x => (kf x, g x)),
    ⟨xs.length, rfl, Nat.zero_le _, Same.fx (same_new hD), (S1.push hD).wiped hw, [], upd_same, rfl, .nil⟩, ?_⟩
  rintro i m H' ⟨rfl, hle, fx, S', acc, hacc, racc⟩
  have yy := y (D :: O) H' ⟨D, hD, rfl, fx⟩ S'.occ
  by_cases hlt : i < xs.length
  · have hx : xs[i]? = some xs[i] := List.getElem?_eq_getElem hlt
    obtain ⟨es', tgx, kex, elx⟩ := hb xs[i] (List.getElem_mem hlt)
    have hd : (xs.map enc)[i]? = some (enc xs[i]) := by rw [List.getElem?_map, hx]; rfl
    obtain ⟨go, yld⟩ := yy.1 i _ hd
    have tk : (xs.take (i + 1)) = xs.take i ++ [xs[i]] := by rw [List.take_add_one, hx]; rfl
    refine .inr ⟨go, fun H4 => Fx W H1 H4 ∧ StO X.K W (D :: O) H4 (wipe σ (own.map (·.2))) es ∧ ∃ acc, H4 D = some (.dK acc) ∧ RpK X.K (hid H4 (D :: O)) acc ((xs.take (i + 1)).map fun x => (kf x, g x)), fun H4 h4 => ⟨xs.length - (i + 1), by omega, rfl, hlt, h4⟩, fun x H2 hy => ?_⟩
    obtain ⟨sm, rx⟩ := yld x H2 hy
    intro s0 H0 C cl fp
    refine tgx s0 H0 C cl fp W (D :: O) _ H2 x (S'.same sm) rx _ fun σ2 S2 wp => ⟨?_, ?_⟩
    · rw [wp _ fun i hi => hi]
      exact wipe_idem
    · intro s0 H0 C cl fp
      refine (es_nil (X := Cb X scope s0 H0 C cl fp)) W (D :: O) σ2 H2 S2 _ fun b H3 f3 S3 pb => ?_
      have pb' : b = true := pb
      subst pb'
      have back : ∀ {H4 : Hp}, Fx W H2 H4 → StO X.K W (D :: O) H4 σ2 es' → Fx W H1 H4 ∧ StO X.K W (D :: O) H4 (wipe σ (own.map (·.2))) es ∧ H4 D = some (.dK acc) ∧ RpK X.K (hid H4 (D :: O)) acc ((xs.take i).map fun x => (kf x, g x)) := fun {H4} f4 S4 => by
        have f24 : Fx W H' H4 := (Same.fx sm).trans f4
        refine ⟨fx.trans f24, S'.fx f24 fun a ha => (S4.spr a ha).2, f24 D _ (S1.newS hD) hacc, racc.mono (S'.fx_hid f24)⟩
      have lacc : acc.length ≤ 100000 := by
        have h0 := congrArg List.length racc.keys
        rw [List.length_map, List.length_map, List.length_map] at h0
        have h2 := List.length_take_le i xs
        omega
      rw [if_pos rfl]
      intro s0 H0 C cl fp
      refine kex s0 H0 C cl fp W (D :: O) σ2 H3 S3 _ fun ky H5 dk f5 S5 pk rk => ?_
      have pk' : dk = .int (kf xs[i]) := pk
      subst pk'
      cases rk
      intro s0 H0 C cl fp
      refine elx s0 H0 C cl fp W (D :: O) σ2 H5 S5 _ fun v H4 d f4 S4 pd rv => ?_
      have pd' : d = g xs[i] := pd
      subst pd'
      obtain ⟨b1, b2, b3, b4⟩ := back (f3.trans (f5.trans f4)) S4
      have vno : valV acc (Sum.inl (kf xs[i])) = none := valV_no (by
        rw [b4.keys, List.map_map]
        intro hm
        obtain ⟨z, hz, ez⟩ := List.mem_map.mp hm
        have ez' : kf z = kf xs[i] := Sum.inl.inj ez
        have nd2 : ((xs.take (i + 1)).map kf).Nodup := by
          rw [List.map_take]
          exact nd.sublist (List.take_sublist _ _)
        rw [tk, List.map_append] at nd2
        have := (List.nodup_append.mp nd2).2.2 (kf z) (List.mem_map.mpr ⟨z, hz, rfl⟩) (kf xs[i]) (by simp)
        exact this ez')
      refine ⟨acc, .inl (kf xs[i]), rfl, b3, Nat.lt_of_le_of_lt lacc (by decide), ?_⟩
      rw [putK_new v vno]
      have hidU : Same (hid H4 (D :: O)) (hid (upd H4 D (.dK (acc ++ [(.inl (kf xs[i]), v)]))) (D :: O)) := fun b o e => by
        obtain ⟨e1, e2⟩ := hid_some.mp e
        refine hid_some.mpr ⟨e1, ?_⟩
        rw [upd_ne (fun z => e1 (by rw [z]; exact List.mem_cons_self))]
        exact e2
      have fU : ∀ b o, b ≠ D → H4 b = some o → (upd H4 D (.dK (acc ++ [(.inl (kf xs[i]), v)]))) b = some o := fun b o n e => by
        rw [upd_ne n]
        exact e
      have nH1 : ∀ b o, H1 b = some o → b ≠ D := fun b o e z => by
        rw [z, hD] at e
        cases e
      refine ⟨fun b o n e => fU b o (nH1 b o e) (b1 b o n e), ⟨b2.sub, fun a ha => ?_, fun b o n e => fU b o (fun z => ?_) (b2.frm b o n e), fun a ha => ⟨(b2.spr a ha).1, ?_⟩, fun j e he => ?_, b2.dist, b2.len, b2.o0⟩, _, upd_same, ?_⟩
      · by_cases z : a = D
        · rw [z, upd_same]
          exact fun z => nomatch z
        · rw [upd_ne z]
          exact b2.occ a ha
      · rw [z] at e
        have := S1.newB hD
        rw [e] at this
        cases this
      · obtain ⟨z1, z2, z3, e⟩ := (b2.spr a ha).2
        refine ⟨z1, z2, z3, fU a _ (fun z => ?_) e⟩
        rw [z] at ha
        exact S1.newS hD ha
      · refine (b2.slot j e he).mono hidU fun a vs ys ee ea m n q => ⟨m, fU a _ (fun z => ?_) q⟩
        subst z
        subst ee
        rw [b3] at q
        cases q
      · refine ⟨?_, ?_⟩
        · rw [tk, List.map_append, List.map_append, List.map_append, b4.keys]
          rfl
        · rw [tk, List.map_append, List.map_append, List.map_append]
          exact (b4.vals.mono hidU).append (.cons (rv.mono hidU) .nil)
  · have e : i = xs.length := by omega
    subst e
    refine .inl ⟨by have := yy.2; rw [List.length_map] at this; exact this, ?_⟩
    rw [List.take_length] at racc
    exact q D acc H' (f1.trans fx) (hO fx S') (hid_some.mpr ⟨S1.newO hD, hacc⟩) (racc.mono (hid_mono fun a ha => List.mem_cons_of_mem _ ha))
/-- y = {k: v for ..} -/
theorem x_dc {xs : List α} {enc : α → PyData} {kf : α → Int} {g : α → PyData} {i : Nat} {y : Str} {py spos : Pos} (hc : X.calm = true) (hN : X.N.Nodup) (hy : X.N[i]? = some y) (hyl : Loc X.env.scope y) (hyf : X.fn y = true ∨ X.env.scope.names.lookup y = some .local) (hi : IterC X tg iter es (IsL (xs.map enc))) (ok : BlkOk X.N X.env.scope scope own) (hw : ∀ i ∈ own.map (·.2), es[i]? = some .no) (hl : xs.length ≤ 100000) (nd : (xs.map kf).Nodup)
    (hb : ∀ x ∈ xs, TurnD X scope tg kx vx (own.map (·.2)) es (enc x) (kf x) (Is (g x))) (k : Exec X rest (es.set i (.dct (xs.map fun x => (kf x, g x)))) N R)
    (hs : swapsWith (.DictComp kx vx [⟨tg, iter, [], 0⟩] scope pos) (some (.Name y py)) spos.line X.env = pure false := by rfl) (hf : ∀ x, foldedSetIterable iter X.env x = pure x := by intro _; rfl) :
    Exec X (.Assign [.Name y py] (.DictComp kx vx [⟨tg, iter, [], 0⟩] scope pos) spos :: rest) es N R := fun W O σ H S D qn qr => by
  refine tss_of (pss_cons (ps_set hN hy hyl (pe_dc hc hN pi_s ok (g := TGB X scope tg) (tt := TPB X scope []) (tk := TEB X scope kx) (tv := TEB X scope vx) (fun s H C cl fp => ⟨fun pins s1 _ _ _ u _ I r h => (h s H C cl fp).go pins s1 u I r⟩)
    (fun s H C cl fp => ⟨fun pins s1 σ1 H1 Q1 I h => by
      obtain ⟨t, ht, q1⟩ := h s H C cl fp
      exact ht.run pins s1 σ1 H1 Q1 I q1⟩) (fun s H C cl fp => ⟨fun pins s1 _ _ _ I h => (h s H C cl fp).go pins s1 I⟩) (fun s H C cl fp => ⟨fun pins s1 _ _ _ I h => (h s H C cl fp).go pins s1 I⟩) hf) hs hyf) pss_s) ?_
  show tDc (TIs X tg iter) (TGB X scope tg) (TPB X scope []) (TEB X scope kx) (TEB X scope vx) (own.map (·.2)) σ H (fun x H1 => TSs X rest D (σ.set i (some x)) H1)
  exact (dc_read hi hw hl nd hb S fun a vs H' fx S' n r => k W O _ H' (S'.setDct i n r) D (fun O' σ' H2 es' n2 t S2 => qn O' σ' H2 es' n2 ((S.trn fx).trans t) S2) qr)
/-- x.get(k, d) -/
theorem ev_dget {i : Nat} {x : Str} {px apos : Pos} {e f : Expr} {kvs : List (Int × PyData)} {j : Int} {d0 : PyData} (hu : X.A.units + 1 < cLine) (he : es[i]? = some (.dct kvs)) (hN : X.N[i]? = some x) (hv : Vis X.env.scope x) (hk : Eval X e es (Is (.int j))) (hd0 : Eval X f es (Is d0))
    (m : M2 X (.Name x px) "get" apos e f pos := by exact ⟨rfl, rfl, rfl, rfl⟩) (hd : (x == ("__debug__" : Str)) = false := by decide) (hcd : (x == ("__classdict__" : Str)) = false := by decide) :
    Eval X (.Call (.Attribute (.Name x px) "get" apos) [e, f] [] pos) es (Is (lkD kvs j d0)) := fun W O σ H S Q q =>
  tes_of (pe_dget2 hu (pe_var hN hv hd hcd) pe_s pe_s m) (by
    obtain ⟨a, vs, e1, e2, r⟩ := S.slot i _ he
    refine ⟨_, e1, a, rfl, .inl ⟨vs, .inl (hid_some.mp e2).2⟩, hk W O σ H S _ fun y H1 dk f1 S1 pk rk => hd0 W O σ H1 S1 _ fun z H2 dz f2 S2 pz rz => ?_⟩
    have pk' : dk = .int j := pk
    have pz' : dz = d0 := pz
    subst pk' pz'
    cases rk
    obtain ⟨a', vs', e1', e2', r'⟩ := S2.slot i _ he
    have ea : a = a' := V.ref.inj (Option.some.inj (Option.some.inj (e1.symm.trans e1')))
    subst ea
    exact ⟨_, DGet.k (k := .inl j) (hid_some.mp e2').2, q _ H2 _ (f1.trans f2) S2 rfl (rpK_get rz j r')⟩)
end
end Ab

set_option maxHeartbeats 4000000
/-! The mirror of a house; what the plain law says of it. -/
namespace Dh
open PySem PySem.Spec PyProof.Rows L2 Ab

structure Dd where
  ch : List (Nat × Rat)
  ga : List Rat
structure Hs where
  sh : Rat
  k : Nat
  st : List (List Dd)
def eCh (p : Nat × Rat) : PyData := .tuple [.int (p.1 : Int), eR p.2]
def eChs (ch : List (Nat × Rat)) : PyData := .tuple (ch.map eCh)
def eDd (d : Dd) : PyData := .tuple [eChs d.ch, eRow d.ga]
def eSt (s : List Dd) : PyData := .tuple (s.map eDd)
def eHs (h : Hs) : PyData := .tuple [eR h.sh, .int (h.k : Int), .tuple (h.st.map eSt)]
def eCho (c : List Nat) : PyData := .tuple (c.map fun (a : Nat) => PyData.int (a : Int))
def Hs.n (h : Hs) : Nat := h.st.length
def stand (h : Hs) (i : Nat) : List Dd := h.st.getD i []
def deed (h : Hs) (i a : Nat) : Dd := (stand h i).getD a ⟨[], []⟩
/-- the chance of a goal -/
def cv (ch : List (Nat × Rat)) (j : Nat) : Rat := ((ch.find? fun p => decide (p.1 = j)).map (·.2)).getD 0
def mvs (h : Hs) (c : List Nat) (i j : Nat) : Rat := cv (deed h i (c.getD i 0)).ch j
def gvs (h : Hs) (c : List Nat) (i p : Nat) : Rat := (deed h i (c.getD i 0)).ga.getD p 0
def tabl (h : Hs) (c : List Nat) : Nat → Nat → Rat := aug h.n h.sh (mvs h c) (gvs h c)
def hts (h : Hs) (w : List Rat) (c : List Nat) (i : Nat) : Rat := dotR w (row h.k fun p => elm (tabl h c) h.n i (h.n + p))
def ahead (ch : List (Nat × Rat)) (v : Nat → Rat) : Rat := sumR (ch.map fun p : Nat × Rat => p.2 * v p.1)
def gap (h : Hs) (w : List Rat) (v : Nat → Rat) (i a : Nat) : Rat := (v i - dotR w (deed h i a).ga) - h.sh * ahead (deed h i a).ch v
def gapRow (h : Hs) (w : List Rat) (v : Nat → Rat) (i : Nat) : List Rat := row (stand h i).length (gap h w v i)
def better (r : List Rat) (a : Nat) : Nat := if r.getD (leastIx r) 0 < 0 then leastIx r else a
def turn (h : Hs) (w : List Rat) (c : List Nat) : List Nat := (List.range h.n).map fun i => better (gapRow h w (hts h w c) i) (c.getD i 0)
def itr (h : Hs) (w : List Rat) : Nat → List Nat
  | 0 => List.replicate h.n 0
  | m + 1 => turn h w (itr h w m)
def dress (h : Hs) (w : List Rat) : Hs := ⟨h.sh, 1, h.st.map fun s => s.map fun d => ⟨d.ch, [dotR w d.ga]⟩⟩

structure ChOk (n : Nat) (ch : List (Nat × Rat)) : Prop where
  len : ch.length ≤ 4
  key : ∀ p ∈ ch, p.1 < n
  asc : (ch.map (·.1)).Pairwise (· < ·)
  pos : ∀ p ∈ ch, 0 < p.2
  sum : sumR (ch.map (·.2)) = 1
  den : ∃ D : Nat, 0 < D ∧ D < 2 ^ 8 ∧ ∀ p ∈ ch, p.2.den ∣ D
structure DdOk (n k : Nat) (d : Dd) : Prop where
  ch : ChOk n d.ch
  gl : d.ga.length = k
  gs : ∀ g ∈ d.ga, Sz 80 40 g
structure HsOk (h : Hs) : Prop where
  n1 : 1 ≤ h.n
  n4 : h.n ≤ 4
  k1 : 1 ≤ h.k
  k4 : h.k ≤ 4
  s1 : ∀ s ∈ h.st, 1 ≤ s.length ∧ s.length ≤ 4 ∧ ∀ d ∈ s, DdOk h.n h.k d
  h0 : 0 ≤ h.sh
  h1 : h.sh < 1
  hd : h.sh.den < 2 ^ 6
structure WOk (h : Hs) (w : List Rat) : Prop where
  len : w.length = h.k
  sz : ∀ x ∈ w, Sz 80 40 x
  dot : ∀ s ∈ h.st, ∀ d ∈ s, DotOk w d.ga ∧ Sz 80 40 (dotR w d.ga)
structure ChoOk (h : Hs) (c : List Nat) : Prop where
  len : c.length = h.n
  lt : ∀ i, i < h.n → c.getD i 0 < (stand h i).length

/-! ### places -/
theorem stand_at {h : Hs} {i : Nat} (hi : i < h.n) : h.st[i]? = some (stand h i) := by
  have hi' : i < h.st.length := hi
  unfold stand
  rw [List.getD_eq_getElem?_getD, List.getElem?_eq_getElem hi']
  rfl
theorem stand_mem {h : Hs} {i : Nat} (hi : i < h.n) : stand h i ∈ h.st := List.mem_of_getElem? (stand_at hi)
theorem deed_at {h : Hs} {i a : Nat} (ha : a < (stand h i).length) : (stand h i)[a]? = some (deed h i a) := by
  unfold deed
  rw [List.getD_eq_getElem?_getD, List.getElem?_eq_getElem ha]
  rfl
theorem deed_mem {h : Hs} {i a : Nat} (ha : a < (stand h i).length) : deed h i a ∈ stand h i := List.mem_of_getElem? (deed_at ha)
theorem HsOk.deed {h : Hs} (ok : HsOk h) {i a : Nat} (hi : i < h.n) (ha : a < (stand h i).length) : DdOk h.n h.k (Dh.deed h i a) := (ok.s1 _ (stand_mem hi)).2.2 _ (deed_mem ha)
end Dh

set_option maxHeartbeats 4000000
/-! Sizes. -/
namespace Dh
open PySem PySem.Spec PyProof.Rows L2 Ab

theorem Sz.neg {a b : Nat} {x : Rat} (h : Sz a b x) : Sz a b (-x) := by
  refine ⟨?_, ?_⟩
  · rw [Rat.neg_num, Int.natAbs_neg]
    exact h.1
  · rw [Rat.neg_den]
    exact h.2
/-- from any fraction form -/
theorem sz_div {a b : Nat} (n : Int) (d : Nat) (hd : d ≠ 0) (h1 : n.natAbs < 2 ^ a) (h2 : d < 2 ^ b) : Sz a b (mkRat n d) := by
  refine ⟨?_, ?_⟩
  · rw [Rat.num_mkRat]
    split
    · omega
    · exact Nat.lt_of_le_of_lt (Int.natAbs_ediv_le_natAbs _ _) h1
  · rw [Rat.den_mkRat]
    split
    · omega
    · exact Nat.lt_of_le_of_lt (Nat.div_le_self _ _) h2
theorem Sz.add {a b c d : Nat} {x y : Rat} (hx : Sz a b x) (hy : Sz c d y) : Sz (max (a + d) (c + b) + 1) (b + d) (x + y) := by
  have e : x + y = mkRat (x.num * y.den + y.num * x.den) (x.den * y.den) := Rat.add_def' x y
  rw [e]
  refine sz_div _ _ (Nat.mul_ne_zero x.den_nz y.den_nz) ?_ ?_
  · have h1 : (x.num * (y.den : Int)).natAbs < 2 ^ (a + d) := by
      rw [Int.natAbs_mul, Nat.pow_add, Int.natAbs_natCast]
      exact Nat.mul_lt_mul_of_lt_of_lt hx.1 hy.2
    have h2 : (y.num * (x.den : Int)).natAbs < 2 ^ (c + b) := by
      rw [Int.natAbs_mul, Nat.pow_add, Int.natAbs_natCast]
      exact Nat.mul_lt_mul_of_lt_of_lt hy.1 hx.2
    have h3 : 2 ^ (a + d) ≤ 2 ^ max (a + d) (c + b) := Nat.pow_le_pow_right (by decide) (Nat.le_max_left _ _)
    have h4 : 2 ^ (c + b) ≤ 2 ^ max (a + d) (c + b) := Nat.pow_le_pow_right (by decide) (Nat.le_max_right _ _)
    rw [Nat.pow_succ]
    have := Int.natAbs_add_le (x.num * (y.den : Int)) (y.num * (x.den : Int))
    omega
  · rw [Nat.pow_add]
    exact Nat.mul_lt_mul_of_lt_of_lt hx.2 hy.2
theorem Sz.sub {a b c d : Nat} {x y : Rat} (hx : Sz a b x) (hy : Sz c d y) : Sz (max (a + d) (c + b) + 1) (b + d) (x - y) := by
  rw [Rat.sub_eq_add_neg]
  exact hx.add hy.neg
theorem sum_take_sz {m : Nat} {l : List Rat} (h : ∀ x ∈ l, Sz m m x) : ∀ i, i ≤ l.length → Sz (i * (m + 1) + 1) (i * (m + 1) + 1) (sumR (l.take i)) := by
  intro i
  induction i with
  | zero =>
    intro _
    have e : sumR (l.take 0) = 0 := rfl
    rw [e]
    exact Sz.mono (a := 1) (b := 1) ⟨by decide +kernel, by decide +kernel⟩ (by omega) (by omega)
  | succ i ih =>
    intro hi
    rw [sumR_take (by omega)]
    have := (ih (by omega)).add (h l[i] (List.getElem_mem _))
    refine this.mono ?_ ?_
    · rw [Nat.succ_mul]
      omega
    · rw [Nat.succ_mul]
      omega
theorem sum_sz {m : Nat} {l : List Rat} (h : ∀ x ∈ l, Sz m m x) (hl : l.length ≤ 4) : Sz (4 * (m + 1) + 1) (4 * (m + 1) + 1) (sumR l) := by
  have := sum_take_sz h l.length (Nat.le_refl _)
  rw [List.take_length] at this
  exact this.mono (by have := Nat.mul_le_mul_right (m + 1) hl; omega) (by have := Nat.mul_le_mul_right (m + 1) hl; omega)
theorem SumOk_of {m : Nat} {l : List Rat} (h : ∀ x ∈ l, Sz m m x) (hl : l.length ≤ 4) (hm : m ≤ 1100) : SumOk l := by
  refine ⟨by omega, fun x hx => (h x hx).mono (by omega) (by omega), fun i hi => (sum_take_sz h i hi).mono ?_ ?_⟩
  · have := Nat.mul_le_mul_right (m + 1) (Nat.le_trans hi hl)
    omega
  · have := Nat.mul_le_mul_right (m + 1) (Nat.le_trans hi hl)
    omega
theorem DotOk_of {a b : Nat} {x y : List Rat} (hx : ∀ q ∈ x, Sz a a q) (hy : ∀ q ∈ y, Sz b b q) (hl : x.length ≤ 4) (hm : a + b ≤ 1100) : DotOk x y := by
  refine ⟨fun p hp => ⟨(hx _ (zip_mem_l hp)).mono (by omega) (by omega), (hy _ (zip_mem_r hp)).mono (by omega) (by omega)⟩, SumOk_of (m := a + b) (fun q hq => ?_) ?_ hm⟩
  · obtain ⟨p, hp, rfl⟩ := List.mem_map.mp hq
    exact (hx _ (zip_mem_l hp)).mul (hy _ (zip_mem_r hp))
  · rw [List.length_map, List.length_zip]
    omega
theorem sz_unit {n : Nat} {q : Rat} (hd : q.den < 2 ^ n) (h0 : 0 ≤ q) (h1 : q ≤ 1) : Sz n n q := by
  refine ⟨?_, hd⟩
  have e1 : 0 ≤ q.num := Rat.num_nonneg.mpr h0
  have e2 : q.num ≤ (q.den : Int) := by
    rw [Rat.le_iff] at h1
    have e : (1 : Rat).den = 1 := rfl
    have e3 : (1 : Rat).num = 1 := rfl
    rw [e, e3] at h1
    omega
  omega
theorem foldl_add (l : List Rat) : ∀ a : Rat, l.foldl (· + ·) a = a + l.foldl (· + ·) 0 := by
  induction l with
  | nil => intro a; show a = a + 0; grind
  | cons x l ih =>
    intro a
    show l.foldl (· + ·) (a + x) = a + l.foldl (· + ·) (0 + x)
    rw [ih (a + x), ih (0 + x)]
    grind
theorem sumR_nil : sumR [] = 0 := rfl
theorem sumR_cons (x : Rat) (l : List Rat) : sumR (x :: l) = x + sumR l := by
  show l.foldl (· + ·) (0 + x) = x + l.foldl (· + ·) 0
  rw [foldl_add l (0 + x)]
  grind
theorem sumR_nonneg {l : List Rat} (h : ∀ x ∈ l, 0 ≤ x) : 0 ≤ sumR l := by
  induction l with
  | nil => rw [sumR_nil]; exact Rat.le_refl
  | cons x l ih =>
    rw [sumR_cons]
    have h1 := h x List.mem_cons_self
    have h2 := ih fun y hy => h y (List.mem_cons_of_mem _ hy)
    grind
theorem le_sumR {l : List Rat} (h : ∀ x ∈ l, 0 ≤ x) : ∀ x ∈ l, x ≤ sumR l := by
  induction l with
  | nil => intro x hx; cases hx
  | cons y l ih =>
    intro x hx
    rw [sumR_cons]
    have h1 := h y List.mem_cons_self
    have h2 := sumR_nonneg fun z hz => h z (List.mem_cons_of_mem _ hz)
    rcases List.mem_cons.mp hx with e | e
    · rw [e]
      grind
    · have h3 := ih (fun z hz => h z (List.mem_cons_of_mem _ hz)) x e
      grind
theorem ch_le {n : Nat} {ch : List (Nat × Rat)} (h : ChOk n ch) : ∀ p ∈ ch, 0 < p.2 ∧ p.2 ≤ 1 ∧ p.2.den < 2 ^ 8 := fun p hp => by
  refine ⟨h.pos p hp, ?_, ?_⟩
  · rw [← h.sum]
    refine le_sumR (fun x hx => ?_) _ (List.mem_map.mpr ⟨p, hp, rfl⟩)
    obtain ⟨q, hq, rfl⟩ := List.mem_map.mp hx
    exact Rat.le_of_lt (h.pos q hq)
  · obtain ⟨D, h1, h2, h3⟩ := h.den
    exact Nat.lt_of_le_of_lt (Nat.le_of_dvd h1 (h3 p hp)) h2
theorem ch_sz {n : Nat} {ch : List (Nat × Rat)} (h : ChOk n ch) : ∀ p ∈ ch, Sz 8 8 p.2 := fun p hp => by
  obtain ⟨h1, h2, h3⟩ := ch_le h p hp
  exact sz_unit h3 (Rat.le_of_lt h1) h2
theorem ch_sum {n : Nat} {ch : List (Nat × Rat)} (h : ChOk n ch) : SumOk (ch.map (·.2)) := SumOk_of (m := 8) (fun x hx => by
  obtain ⟨p, hp, rfl⟩ := List.mem_map.mp hx
  exact ch_sz h p hp) (by rw [List.length_map]; exact h.len) (by decide)
theorem sh_sz {h : Hs} (ok : HsOk h) : Sz 6 6 h.sh := sz_unit ok.hd ok.h0 (Rat.le_of_lt ok.h1)
theorem cv_sz {n : Nat} {ch : List (Nat × Rat)} (h : ChOk n ch) (j : Nat) : Sz 8 8 (cv ch j) := by
  unfold cv
  cases e : ch.find? (fun p => decide (p.1 = j)) with
  | none => exact ⟨by decide +kernel, by decide +kernel⟩
  | some p => exact ch_sz h p (List.mem_of_find?_eq_some e)
end Dh

set_option maxHeartbeats 4000000
/-! Checks of a house. -/
namespace Dh
open PySem PySem.Spec PyProof.Rows L2 Ab

section
variable {X : Cx} {es : List Sl} {N : List Sl → Prop} {R : RP} {rest : List Stmt} {pos spos py : Pos} {e : Expr} {P : PyData → Prop}
/-- a statement that is a call -/
theorem x_do (h : Eval X e es P) (k : Exec X rest es N R) (hs : swapsWith e none pos.line X.env = pure false := by rfl) : Exec X (.Expr e pos :: rest) es N R := fun W O σ H S D qn qr =>
  tss_of (pss_cons (ps_expr pe_s hs) pss_s) (h W O σ H S _ fun v H' d f S' pd r => k W O σ H' S' D (fun O' σ' H2 es' n t S2 => qn O' σ' H2 es' n ((S.trn f).trans t) S2) qr)
/-- all([..]) whose tests are all true, the list's shape open -/
theorem ev_allB {p : Pos} {bs : List Bool} (hc : X.calm = true) (hg : Gl X "all") (hm : X.mg "all" = none) (h : EvalN X e es (Ab.IsL (bs.map .bool))) (hb : bs.all id = true) (he : starEach [e] X.env = (false, eval e X.env) :: starEach [] X.env := by rfl) (hpl : (backTo pos (starEach [] X.env)).any (·.1) = false := by rfl) :
    Eval X (.Call (.Name "all" p) [e] [] pos) es (Is (.bool true)) := by
  have h3 := ev_callB (pos := pos) (p := p) (cr_all hc) hg hm (by decide +kernel) (ea_cons h.is ea_nil he) (P := Is (.bool (bs.all id))) (by rintro _ rfl; exact cd_all) (by decide) (by decide) he hpl
  rw [hb] at h3
  exact h3
end
theorem eqv_all_shape (xs : List PyData) (h : ∀ x ∈ xs, x.canLay0 = true ∧ x.depth ≤ 5) : PyData.canLayAll0 xs = true ∧ PyData.depthAll xs ≤ 5 := by
  induction xs with
  | nil => exact ⟨by simp [PyData.canLayAll0], by simp [PyData.depthAll]⟩
  | cons x xs ih =>
    have h1 := h x List.mem_cons_self
    have h2 := ih fun y hy => h y (List.mem_cons_of_mem _ hy)
    refine ⟨?_, ?_⟩
    · simp [PyData.canLayAll0, h1.1, h2.1]
    · simp only [PyData.depthAll]
      exact Nat.max_le.mpr ⟨h1.2, h2.2⟩
theorem shaped_tup (xs : List PyData) (h : ∀ x ∈ xs, x.canLay0 = true ∧ x.depth ≤ 5) : SeqAt.shaped (.tuple xs) = true := by
  obtain ⟨h1, h2⟩ := eqv_all_shape xs h
  unfold SeqAt.shaped
  have : (PyData.tuple xs).depth ≤ 64 := by
    simp only [PyData.depth]
    omega
  simp [PyData.canLay0, h1, this]
theorem shaped_Cho (c : List Nat) : SeqAt.shaped (eCho c) = true := shaped_tup _ fun x hx => by
  obtain ⟨a, _, rfl⟩ := List.mem_map.mp hx
  exact ⟨rfl, Nat.zero_le _⟩
theorem shaped_Row (l : List Rat) : SeqAt.shaped (eRow l) = true := shaped_tup _ fun x hx => by
  obtain ⟨a, _, rfl⟩ := List.mem_map.mp hx
  refine ⟨rfl, ?_⟩
  have : (eR a).depth = 1 := rfl
  omega
theorem eqv_Cho (c c' : List Nat) : PyData.eqv (eCho c) (eCho c') = decide (c = c') := by
  unfold eCho
  rw [eqv_tup]
  refine eqvAll_map _ (fun x y => ?_) c c'
  rw [eqv_int]
  exact decide_eq_decide.mpr ⟨fun h => by omega, fun h => by rw [h]⟩
theorem all_true {α : Type} (xs : List α) (f : α → Bool) (h : ∀ x ∈ xs, f x = true) : (xs.map f).all id = true := by
  rw [List.all_map, List.all_eq_true]
  exact h
theorem num_pos {q : Rat} (h : 0 < q) : 0 < q.num := by
  have h1 : 0 ≤ q.num := Rat.num_nonneg.mpr (Rat.le_of_lt h)
  have h2 : q.num ≠ 0 := fun e => by
    have := Rat.num_eq_zero.mp e
    rw [this] at h
    exact Rat.lt_irrefl h
  omega

section
variable {P : Program} {w : World} {K : PySem.W.Frag} {mg : Str → Option Value} {base : Heap}
def R_are_chances (ds : List PyData) (PP : PyData → Prop) : Prop := ∃ (n : Nat) (ch : List (Nat × Rat)), ds = [eChs ch, .int (n : Int)] ∧ ChOk n ch ∧ PP = Is (.bool true)
theorem asc_zip {xs : List Nat} (h : xs.Pairwise (· < ·)) : ∀ p ∈ xs.zip (xs.drop 1), p.1 < p.2 := by
  induction xs with
  | nil => intro p hp; cases hp
  | cons a xs ih =>
    cases xs with
    | nil => intro p hp; cases hp
    | cons b xs =>
      intro p hp
      rcases List.mem_cons.mp hp with e | e
      · rw [e]
        exact (List.pairwise_cons.mp h).1 b List.mem_cons_self
      · exact ih (List.pairwise_cons.mp h).2 p e
theorem ok_are_chances {f : Addr} {fd : FuncData} (B : Bt K mg) (F : Fun K "are_chances" "are_chances" s_are_chances f fd) (Gt : KP P w K mg base "is_tuple_of" 1 ["value", "many"] R_tup) (Gb : KP P w K mg base "is_between" 2 ["value", "low", "high"] R_between) (Gr : KP P w K mg base "is_ratio" 2 ["value"] R_is_ratio) (Gs : KP P w K mg base "total" 3 ["fractions"] R_total) : FnOk P w K mg base CX0 4 f fd ["value", "stands"] (spP K R_are_chances) := by
  refine fn_pure (N := n_are_chances) F c_are_chances (fun ds PP h => ?_) (fun cdv A outer s H E hr ds PP h => ?_)
  · obtain ⟨n, ch, rfl, _⟩ := h
    rfl
  · obtain ⟨n, ch, rfl, ok, rfl⟩ := h
    have hl := ok.len
    refine x_if (Pc := IsB false) (N1 := fun es1 => es1 = entry n_are_chances.length [eChs ch, .int (n : Int)]) (et_w (ew_or (P1 := IsB false) (et_notB (k := true) (et_is (ev_isi (n := "tuple") rfl B.isinstance rfl B.tuple (by decide +kernel) (nm 0) fun H v r => ⟨_, ty_tup r, kit_tup_tup⟩)))
      (fun _ => ew_or1 (et_notB (k := true) (et_is (ev_allT (xs := ch) rfl rfl B.all (lc1 (xs := ch) (enc := eCh) (g := fun _ => .bool true) 3 c_are_chances.nd (IterL.c (it_tup (nm 0))) (blkOk_by (N := n_are_chances) (sc := defScope s_are_chances) (by decide +kernel)) (by omega) fun p hp s0 H0 C cl fp => ?_))))) (fun h => nomatch h))) (fun h => nomatch h) (fun _ => x_nil rfl) ?_
    · exact ev_call (Gt.mono (by decide : 1 ≤ 3)) hr rfl (ea_cons (nm 3) (ea_cons ev_int ea_nil)) ⟨_, 2, rfl, rfl⟩
    rintro es1 rfl
    refine x_if (Pc := IsB false) (N1 := fun es1 => es1 = entry n_are_chances.length [eChs ch, .int (n : Int)]) (et_notB (k := true) (et_is (ev_allT (xs := ch) rfl rfl B.all (lc2 (xs := ch) (e1 := fun (a : Nat) => .int (a : Int)) (e2 := eR) (g := fun _ => .bool true) 4 5 c_are_chances.nd (IterL.c (it_tup (nm 0))) (blkOk_by (N := n_are_chances) (sc := defScope s_are_chances) (by decide +kernel)) (by omega) fun p hp s0 H0 C cl fp => ?_)))) (fun h => nomatch h) (fun _ => x_nil rfl) ?_
    · have hk := ok.key p hp
      have hq := ok.pos p hp
      have hq' : 0 < p.2.num := num_pos hq
      refine ev_and (k := true) (k2 := true) (Eval.to (ev_call (Gb.mono (by decide : 2 ≤ 3)) hr rfl (ea_cons (nm 4) (ea_cons ev_int (ea_cons (ev_sub (nm 1) ev_int) ea_nil))) ⟨_, _, _, rfl, rfl⟩) ?_) fun _ => ev_and (k := true) (k2 := true) (ev_call (Gr.mono (by decide : 2 ≤ 3)) hr rfl (ea_cons (nm 5) ea_nil) ⟨_, rfl, rfl⟩) fun _ => Ab.ev_one (Eval.to (ev_gt (ev_ixT (nm 5) ev_int rfl) ev_int) ?_)
      · rw [decide_eq_true (by omega : (0 : Int) ≤ (p.1 : Int)), decide_eq_true (by omega : (p.1 : Int) ≤ (n : Int) - 1)]
        rfl
      · rw [decide_eq_true hq']
    rintro es1 rfl
    refine x_lc2 (xs := ch) (e1 := fun (a : Nat) => .int (a : Int)) (e2 := eR) (g := fun p => .int (p.1 : Int)) 2 4 6 c_are_chances.nd (IterL.c (it_tup (nm 0))) (blkOk_by (N := n_are_chances) (sc := defScope s_are_chances) (by decide +kernel)) (by omega) (fun p hp s0 H0 C cl fp => nm 4) ?_
    refine x_frz 2 rfl ?_
    refine x_retIs (ev_and (k := true) (k2 := true) ?_ fun _ => Ab.ev_one (Eval.to (ev_eqD hr.units (ev_call Gs hr rfl (ea_cons (EvalN.is (lc2 (xs := ch) (e1 := fun (a : Nat) => .int (a : Int)) (e2 := eR) (g := fun p => eR p.2) 6 5 c_are_chances.nd (IterL.c (it_tup (nm 0))) (blkOk_by (N := n_are_chances) (sc := defScope s_are_chances) (by decide +kernel)) (by omega) fun p hp s0 H0 C cl fp => nm 5)) ea_nil) ⟨ch.map (·.2), ?_, ch_sum ok, rfl⟩) (ev_one' B rfl) (shaped_R _) (shaped_R _)) ?_)) rfl
    · refine ev_allT (xs := (ch.map Prod.fst).zip ((ch.map Prod.fst).drop 1)) rfl rfl B.all (lc2 (xs := (ch.map Prod.fst).zip ((ch.map Prod.fst).drop 1)) (e1 := fun (a : Nat) => .int (a : Int)) (e2 := fun (a : Nat) => .int (a : Int)) (g := fun _ => .bool true) 7 8 c_are_chances.nd (IterL.c (it_zipE (xs := ch.map Prod.fst) (ys := (ch.map Prod.fst).drop 1) (e1 := fun (a : Nat) => .int (a : Int)) (e3 := fun (a : Nat) => .int (a : Int)) rfl B.zip (nm 2) (EvalN.is (EvalN.to (ds' := ((ch.map Prod.fst).drop 1).map fun (a : Nat) => PyData.int (a : Int)) (en_from (n := 1) (nm 2) ev_int) ?_)) (.inl (congrArg PyData.list ?_)) (.inl rfl))) (blkOk_by (N := n_are_chances) (sc := defScope s_are_chances) (by decide +kernel)) ?_ fun p hp s0 H0 C cl fp => Eval.to (ev_lt (nm 7) (nm 8)) ?_)
      · rw [← List.map_drop, ← List.map_drop, List.map_map]
        rfl
      · rw [List.map_map]
        rfl
      · rw [List.length_zip, List.length_map]
        omega
      · have := asc_zip ok.asc p hp
        rw [decide_eq_true (by omega)]
    · unfold eLst
      rw [List.map_map]
      rfl
    · rw [eqv_R, ok.sum]
      rfl
end
end Dh

set_option maxHeartbeats 4000000
/-! Checks of a house, of weights. -/
namespace Dh
open PySem PySem.Spec PyProof.Rows L2 Ab
section
variable {P : Program} {w : World} {K : PySem.W.Frag} {mg : Str → Option Value} {base : Heap}
def R_is_deed (ds : List PyData) (PP : PyData → Prop) : Prop := ∃ (n k : Nat) (d : Dd), ds = [eDd d, .int (k : Int), .int (n : Int)] ∧ k ≤ 100 ∧ DdOk n k d ∧ PP = Is (.bool true)
theorem ok_is_deed {f : Addr} {fd : FuncData} (B : Bt K mg) (F : Fun K "is_deed" "is_deed" s_is_deed f fd) (Gt : KP P w K mg base "is_tuple_of" 1 ["value", "many"] R_tup) (Gc : KP P w K mg base "are_chances" 4 ["value", "stands"] R_are_chances) (Gr : KP P w K mg base "is_row" 3 ["value", "many"] R_is_row) : FnOk P w K mg base CX0 5 f fd ["value", "pays", "stands"] (spP K R_is_deed) := by
  refine fn_pure (N := n_is_deed) F c_is_deed (fun ds PP h => ?_) (fun cdv A outer s H E hr ds PP h => ?_)
  · obtain ⟨n, k, d, rfl, _⟩ := h
    rfl
  · obtain ⟨n, k, d, rfl, hk, ok, rfl⟩ := h
    refine x_retIs (ev_and (k := true) (k2 := true) (ev_call (Gt.mono (by decide : 1 ≤ 4)) hr rfl (ea_cons (nm 0) (ea_cons ev_int ea_nil)) ⟨_, 2, rfl, rfl⟩) fun _ => ev_and (k := true) (k2 := true) (ev_call Gc hr rfl (ea_cons (ev_ixT (nm 0) ev_int rfl) (ea_cons (nm 2) ea_nil)) ⟨n, d.ch, rfl, ok.ch, rfl⟩) fun _ => Ab.ev_one (ev_call (Gr.mono (by decide : 3 ≤ 4)) hr rfl (ea_cons (ev_ixT (nm 0) ev_int rfl) (ea_cons (nm 1) ea_nil)) ⟨d.ga, ?_, ?_, rfl⟩)) rfl
    · rw [ok.gl]
    · have := ok.gl
      omega
def R_is_stand (ds : List PyData) (PP : PyData → Prop) : Prop := ∃ (n k : Nat) (s : List Dd), ds = [eSt s, .int (k : Int), .int (n : Int)] ∧ k ≤ 100 ∧ 1 ≤ s.length ∧ s.length ≤ 4 ∧ (∀ d ∈ s, DdOk n k d) ∧ PP = Is (.bool true)
theorem ev_pays {X : Cx} {es : List Sl} {pos : Pos} (B : Bt X.K X.mg) (hg : Gl X "MOST_PAYS") : Eval X (.Name "MOST_PAYS" pos) es (Is (.int 4)) := by
  obtain ⟨t, h1⟩ := B.pays
  exact ev_glob hg h1 (v := .int 4) ⟨t, rfl⟩ fun H => .int 4
theorem ev_stands {X : Cx} {es : List Sl} {pos : Pos} (B : Bt X.K X.mg) (hg : Gl X "MOST_STANDS") : Eval X (.Name "MOST_STANDS" pos) es (Is (.int 8)) := by
  obtain ⟨t, h1⟩ := B.stands
  exact ev_glob hg h1 (v := .int 8) ⟨t, rfl⟩ fun H => .int 8
theorem ev_deeds {X : Cx} {es : List Sl} {pos : Pos} (B : Bt X.K X.mg) (hg : Gl X "MOST_DEEDS") : Eval X (.Name "MOST_DEEDS" pos) es (Is (.int 4)) := by
  obtain ⟨t, h1⟩ := B.deeds
  exact ev_glob hg h1 (v := .int 4) ⟨t, rfl⟩ fun H => .int 4
theorem btw {v lo hi : Int} (h1 : lo ≤ v) (h2 : v ≤ hi) : PyData.bool (decide (lo ≤ v) && decide (v ≤ hi)) = .bool true := by
  rw [decide_eq_true h1, decide_eq_true h2]
  rfl
theorem ok_is_stand {f : Addr} {fd : FuncData} (B : Bt K mg) (F : Fun K "is_stand" "is_stand" s_is_stand f fd) (Gb : KP P w K mg base "is_between" 2 ["value", "low", "high"] R_between) (Gd : KP P w K mg base "is_deed" 5 ["value", "pays", "stands"] R_is_deed) : FnOk P w K mg base CX0 6 f fd ["value", "pays", "stands"] (spP K R_is_stand) := by
  refine fn_pure (N := n_is_stand) F c_is_stand (fun ds PP h => ?_) (fun cdv A outer s H E hr ds PP h => ?_)
  · obtain ⟨n, k, s, rfl, _⟩ := h
    rfl
  · obtain ⟨n, k, sd, rfl, hk, h1, h4, ok, rfl⟩ := h
    refine x_if (Pc := IsB false) (N1 := fun es1 => es1 = entry n_is_stand.length [eSt sd, .int (k : Int), .int (n : Int)]) (et_w (ew_or (P1 := IsB false) (et_notB (k := true) (et_is (ev_isi (n := "tuple") rfl B.isinstance rfl B.tuple (by decide +kernel) (nm 0) fun H v r => ⟨_, ty_tup r, kit_tup_tup⟩)))
      (fun _ => ew_or1 (et_notB (k := true) (et_is (Eval.to (ev_call (Gb.mono (by decide : 2 ≤ 5)) hr rfl (ea_cons (ev_lenT rfl B.len (nm 0)) (ea_cons ev_int (ea_cons (ev_deeds B rfl) ea_nil))) ⟨_, _, _, rfl, rfl⟩) ?_)))) (fun h => nomatch h))) (fun h => nomatch h) (fun _ => x_nil rfl) ?_
    · exact btw (by rw [List.length_map]; omega) (by rw [List.length_map]; omega)
    rintro es1 rfl
    refine x_retIs (ev_allT (xs := sd) rfl rfl B.all (lc1 (xs := sd) (enc := eDd) (g := fun _ => .bool true) 3 c_is_stand.nd (IterL.c (it_tup (nm 0))) (blkOk_by (N := n_is_stand) (sc := defScope s_is_stand) (by decide +kernel)) (by omega) fun d hd s0 H0 C cl fp => ?_)) rfl
    exact ev_call Gd hr rfl (ea_cons (nm 3) (ea_cons (nm 1) (ea_cons (nm 2) ea_nil))) ⟨n, k, d, rfl, hk, ok d hd, rfl⟩
def R_is_share (ds : List PyData) (PP : PyData → Prop) : Prop := ∃ q : Rat, ds = [eR q] ∧ 0 ≤ q ∧ q < 1 ∧ PP = Is (.bool true)
theorem ok_is_share {f : Addr} {fd : FuncData} (B : Bt K mg) (F : Fun K "is_share" "is_share" s_is_share f fd) (Gr : KP P w K mg base "is_ratio" 2 ["value"] R_is_ratio) : FnOk P w K mg base CX0 3 f fd ["value"] (spP K R_is_share) := by
  refine fn_pure (N := n_is_share) F c_is_share (fun ds PP h => ?_) (fun cdv A outer s H E hr ds PP h => ?_)
  · obtain ⟨q, rfl, _⟩ := h
    rfl
  · obtain ⟨q, rfl, h0, h1, rfl⟩ := h
    refine x_retIs (ev_and (k := true) (k2 := true) (ev_call Gr hr rfl (ea_cons (nm 0) ea_nil) ⟨q, rfl, rfl⟩) fun _ => Ab.ev_one (Eval.to (ev_chainI op_le op_lt ev_int (ev_ixT (nm 0) ev_int rfl) (ev_ixT (nm 0) ev_int rfl)) ?_)) rfl
    have e1 : 0 ≤ q.num := Rat.num_nonneg.mpr h0
    have e2 : q.num < (q.den : Int) := by
      have z := lt_is q 1
      rw [decide_eq_true h1] at z
      have z2 := of_decide_eq_true z
      have e : (1 : Rat).den = 1 := rfl
      have e3 : (1 : Rat).num = 1 := rfl
      rw [e, e3] at z2
      omega
    show PyData.bool (decide (0 ≤ q.num) && decide (q.num < (q.den : Int))) = _
    rw [decide_eq_true e1, decide_eq_true e2]
    rfl
def R_house (ds : List PyData) (PP : PyData → Prop) : Prop := ∃ h : Hs, ds = [eHs h] ∧ HsOk h ∧ PP = Is (.bool true)
theorem ok_is_house_by {f : Addr} {fd : FuncData} (B : Bt K mg) (F : Fun K "is_house_by" "is_house_by" s_is_house_by f fd) (Gt : KP P w K mg base "is_tuple_of" 1 ["value", "many"] R_tup) (Gh : KP P w K mg base "is_share" 3 ["value"] R_is_share) (Gb : KP P w K mg base "is_between" 2 ["value", "low", "high"] R_between) (Gs : KP P w K mg base "is_stand" 6 ["value", "pays", "stands"] R_is_stand) : FnOk P w K mg base CX0 7 f fd ["value"] (spP K R_house) := by
  refine fn_pure (N := n_is_house_by) F c_is_house_by (fun ds PP h => ?_) (fun cdv A outer s H E hr ds PP h => ?_)
  · obtain ⟨h, rfl, _⟩ := h
    rfl
  · obtain ⟨h, rfl, ok, rfl⟩ := h
    have k1 := ok.k1
    have k4 := ok.k4
    have n1 : 1 ≤ h.st.length := ok.n1
    have n4 : h.st.length ≤ 4 := ok.n4
    refine x_if (Pc := IsB false) (N1 := fun es1 => es1 = entry n_is_house_by.length [eHs h]) (et_w (ew_or (P1 := IsB false) (et_notB (k := true) (et_is (ev_call (Gt.mono (by decide : 1 ≤ 6)) hr rfl (ea_cons (nm 0) (ea_cons ev_int ea_nil)) ⟨_, 3, rfl, rfl⟩)))
      (fun _ => ew_or (P1 := IsB false) (et_notB (k := true) (et_is (ev_call (Gh.mono (by decide : 3 ≤ 6)) hr rfl (ea_cons (ev_ixT (nm 0) ev_int rfl) ea_nil) ⟨h.sh, rfl, ok.h0, ok.h1, rfl⟩)))
        (fun _ => ew_or1 (et_notB (k := true) (et_is (Eval.to (ev_call (Gb.mono (by decide : 2 ≤ 6)) hr rfl (ea_cons (ev_ixT (nm 0) ev_int rfl) (ea_cons ev_int (ea_cons (ev_pays B rfl) ea_nil))) ⟨_, _, _, rfl, rfl⟩) (btw (by omega) (by omega)))))) (fun h => nomatch h)) (fun h => nomatch h))) (fun h => nomatch h) (fun _ => x_nil rfl) ?_
    rintro es1 rfl
    refine x_setIs (i := 1) (d := .tuple (h.st.map eSt)) c_is_house_by.nd rfl (.inr rfl) (.inl rfl) (ev_ixT (nm 0) ev_int rfl) ?_
    refine x_if (Pc := IsB false) (N1 := fun es1 => es1 = [.val (eHs h), .val (.tuple (h.st.map eSt)), .no]) (et_w (ew_or (P1 := IsB false) (et_notB (k := true) (et_is (ev_isi (n := "tuple") rfl B.isinstance rfl B.tuple (by decide +kernel) (nm 1) fun H v r => ⟨_, ty_tup r, kit_tup_tup⟩)))
      (fun _ => ew_or1 (et_notB (k := true) (et_is (Eval.to (ev_call (Gb.mono (by decide : 2 ≤ 6)) hr rfl (ea_cons (ev_lenT rfl B.len (nm 1)) (ea_cons ev_int (ea_cons (ev_stands B rfl) ea_nil))) ⟨_, _, _, rfl, rfl⟩) ?_)))) (fun h => nomatch h))) (fun h => nomatch h) (fun _ => x_nil rfl) ?_
    · exact btw (by rw [List.length_map]; omega) (by rw [List.length_map]; omega)
    rintro es1 rfl
    refine x_retIs (ev_allT (xs := h.st) rfl rfl B.all (lc1 (xs := h.st) (enc := eSt) (g := fun _ => .bool true) 2 c_is_house_by.nd (IterL.c (it_tup (nm 1))) (blkOk_by (N := n_is_house_by) (sc := defScope s_is_house_by) (by decide +kernel)) (by omega) fun sd hd s0 H0 C cl fp => ?_)) rfl
    obtain ⟨a1, a2, a3⟩ := ok.s1 sd hd
    exact ev_call Gs hr rfl (ea_cons (nm 2) (ea_cons (ev_ixT (nm 0) ev_int rfl) (ea_cons (Eval.to (d' := .int (h.n : Int)) (ev_lenT rfl B.len (nm 1)) (by rw [List.length_map]; rfl)) ea_nil))) ⟨h.n, h.k, sd, rfl, by omega, a1, a2, a3, rfl⟩
def R_check_house (ds : List PyData) (PP : PyData → Prop) : Prop := ∃ h : Hs, ds = [eHs h] ∧ HsOk h ∧ PP = Is .none
theorem ok_check_house {f : Addr} {fd : FuncData} (B : Bt K mg) (F : Fun K "check_house" "check_house" s_check_house f fd) (Gh : KP P w K mg base "is_house_by" 7 ["value"] R_house) : FnOk P w K mg base CX0 8 f fd ["value"] (spP K R_check_house) := by
  refine fn_pure (N := n_check_house) F c_check_house (fun ds PP h => ?_) (fun cdv A outer s H E hr ds PP h => ?_)
  · obtain ⟨h, rfl, _⟩ := h
    rfl
  · obtain ⟨h, rfl, ok, rfl⟩ := h
    exact x_if (Pc := IsB false) (N1 := fun es1 => True) (et_notB (k := true) (et_is (ev_call Gh hr rfl (ea_cons (nm 0) ea_nil) ⟨h, rfl, ok, rfl⟩))) (fun h => nomatch h) (fun _ => x_nil trivial) fun es1 _ => x_nil rfl
def R_check_weights (ds : List PyData) (PP : PyData → Prop) : Prop := ∃ (h : Hs) (w : List Rat), ds = [eHs h, eRow w] ∧ w.length = h.k ∧ h.k ≤ 1000 ∧ PP = Is .none
theorem ok_check_weights {f : Addr} {fd : FuncData} (B : Bt K mg) (F : Fun K "check_weights" "check_weights" s_check_weights f fd) (Gt : KP P w K mg base "is_tuple_of" 1 ["value", "many"] R_tup) (Gr : KP P w K mg base "is_ratio" 2 ["value"] R_is_ratio) : FnOk P w K mg base CX0 3 f fd ["house", "value"] (spP K R_check_weights) := by
  refine fn_pure (N := n_check_weights) F c_check_weights (fun ds PP h => ?_) (fun cdv A outer s H E hr ds PP h => ?_)
  · obtain ⟨h, w, rfl, _⟩ := h
    rfl
  · obtain ⟨h, w, rfl, hw, hk, rfl⟩ := h
    refine x_if (Pc := IsB false) (N1 := fun es1 => es1 = entry n_check_weights.length [eHs h, eRow w]) (et_notB (k := true) (et_is (Eval.to (ev_call (Gt.mono (by decide : 1 ≤ 2)) hr rfl (ea_cons (nm 1) (ea_cons (ev_ixT (nm 0) ev_int rfl) ea_nil)) ⟨_, _, rfl, rfl⟩) ?_))) (fun h => nomatch h) (fun _ => x_nil rfl) ?_
    · rw [List.length_map, hw, decide_eq_true rfl]
    rintro es1 rfl
    refine x_for PassesOwn.never rfl (it_enumE (xs := w) (e1 := eR) rfl B.enumerate (nm 1) (.inr rfl)) (fun _ i es => ∃ e2 e3, es = [.val (eHs h), .val (eRow w), e2, e3]) (fun items p => ⟨_, _, rfl⟩) (fun items p i d es1 hd ⟨e2, e3, he⟩ => ?_) (fun items p es1 ⟨e2, e3, he⟩ => x_nil rfl)
    have p' := p
    unfold Ab.IsL at p'
    subst p' he
    obtain ⟨hi, rfl⟩ := get_of_map hd
    refine ⟨_, _, tg_pair (i := 2) (j := 3) rfl c_check_weights.nd rfl (.inl rfl) (.inl rfl) rfl (.inl rfl) (.inl rfl), ?_⟩
    exact x_if (Pc := IsB false) (N1 := fun es1 => es1 = [.val (eHs h), .val (eRow w), .val (.int (_ : Int)), .val (eR _)]) (et_notB (k := true) (et_is (ev_call Gr hr rfl (ea_cons (nm 3) ea_nil) ⟨_, rfl, rfl⟩))) (fun h => nomatch h) (fun _ => x_nil rfl) fun es1 h => x_nil ⟨_, _, h⟩
end
end Dh

set_option maxHeartbeats 400000
/-! The plain law: elimination. -/
namespace Dh
open PySem PySem.Spec PyProof.Rows L2 Ab

/-! ### finite sums -/
def sg (n : Nat) (f : Nat → Rat) : Rat := match n with
  | 0 => 0
  | n + 1 => sg n f + f n
theorem sg_congr {n : Nat} {f g : Nat → Rat} (h : ∀ j, j < n → f j = g j) : sg n f = sg n g := by
  induction n with
  | zero => rfl
  | succ n ih =>
    show sg n f + f n = sg n g + g n
    rw [ih fun j hj => h j (by omega), h n (by omega)]
theorem sg_add (n : Nat) (f g : Nat → Rat) : sg n (fun j => f j + g j) = sg n f + sg n g := by
  induction n with
  | zero => show (0 : Rat) = 0 + 0; grind
  | succ n ih =>
    show sg n (fun j => f j + g j) + (f n + g n) = (sg n f + f n) + (sg n g + g n)
    rw [ih]
    grind
theorem sg_mul (n : Nat) (c : Rat) (f : Nat → Rat) : sg n (fun j => c * f j) = c * sg n f := by
  induction n with
  | zero => show (0 : Rat) = c * 0; grind
  | succ n ih =>
    show sg n (fun j => c * f j) + c * f n = c * (sg n f + f n)
    rw [ih]
    grind
theorem sg_zero (n : Nat) : sg n (fun _ => 0) = 0 := by
  induction n with
  | zero => rfl
  | succ n ih =>
    show sg n (fun _ => 0) + 0 = 0
    rw [ih]
    grind
theorem sg_le {n : Nat} {f g : Nat → Rat} (h : ∀ j, j < n → f j ≤ g j) : sg n f ≤ sg n g := by
  induction n with
  | zero => exact Rat.le_refl
  | succ n ih =>
    show sg n f + f n ≤ sg n g + g n
    have h1 := ih fun j hj => h j (by omega)
    have h2 := h n (by omega)
    grind
theorem sg_one {n i : Nat} (hi : i < n) (f : Nat → Rat) : sg n (fun j => if j = i then f j else 0) = f i := by
  induction n with
  | zero => omega
  | succ n ih =>
    show sg n (fun j => if j = i then f j else 0) + (if n = i then f n else 0) = f i
    by_cases e : n = i
    · subst e
      rw [if_pos rfl, sg_congr (g := fun _ => 0) fun j hj => if_neg (by omega), sg_zero]
      grind
    · rw [if_neg e, ih (by omega)]
      grind
theorem sg_split {n i : Nat} (hi : i < n) (f : Nat → Rat) : sg n f = f i + sg n (fun j => if j = i then 0 else f j) := by
  have : sg n f = sg n (fun j => (if j = i then f j else 0) + (if j = i then 0 else f j)) := sg_congr fun j _ => by
    by_cases e : j = i
    · rw [if_pos e, if_pos e]
      grind
    · rw [if_neg e, if_neg e]
      grind
  rw [this, sg_add, sg_one hi]

/-! ### what every stage keeps -/
/-- off the diagonal nothing is above 0, each row's sum over the first n columns is above 0, the diagonal is at most 1 -/
structure Mm (n : Nat) (T : Nat → Nat → Rat) : Prop where
  off : ∀ i, i < n → ∀ j, j < n → j ≠ i → T i j ≤ 0
  sum : ∀ i, i < n → 0 < sg n (T i)
  dia : ∀ i, i < n → T i i ≤ 1
theorem Mm.pos {n : Nat} {T : Nat → Nat → Rat} (m : Mm n T) {i : Nat} (hi : i < n) : 0 < T i i := by
  have h1 := m.sum i hi
  rw [sg_split hi] at h1
  have h2 : sg n (fun j => if j = i then 0 else T i j) ≤ sg n (fun _ => 0) := sg_le fun j hj => by
    by_cases e : j = i
    · rw [if_pos e]
      exact Rat.le_refl
    · rw [if_neg e]
      exact m.off i hi j hj e
  rw [sg_zero] at h2
  grind
theorem Mm.low {n : Nat} {T : Nat → Nat → Rat} (m : Mm n T) {i j : Nat} (hi : i < n) (hj : j < n) : -1 ≤ T i j ∧ T i j ≤ 1 := by
  by_cases e : j = i
  · subst e
    have := m.pos hi
    have := m.dia j hi
    grind
  · have h0 := m.off i hi j hj e
    refine ⟨?_, by grind⟩
    have h1 := m.sum i hi
    rw [sg_split hi] at h1
    have h2 : sg n (fun l => if l = i then 0 else T i l) ≤ sg n (fun l => if l = j then T i l else 0) := sg_le fun l hl => by
      by_cases e1 : l = i
      · rw [if_pos e1, if_neg (by omega)]
        exact Rat.le_refl
      · rw [if_neg e1]
        by_cases e2 : l = j
        · rw [if_pos e2]
          exact Rat.le_refl
        · rw [if_neg e2]
          exact m.off i hi l hl e1
    rw [sg_one hj] at h2
    have h3 := m.dia i hi
    grind
theorem div_mul {a b : Rat} (c : Rat) : a / b * c = a * c / b := by
  rw [Rat.div_def, Rat.div_def]
  grind
theorem inv_nn {p : Rat} (h : 0 < p) : 0 < p⁻¹ := Rat.inv_pos.mpr h
theorem stp_at {k : Nat} {T : Nat → Nat → Rat} (j : Nat) : stp k T k j = T k j / T k k := if_pos rfl
theorem stp_ne {k i : Nat} {T : Nat → Nat → Rat} (h : i ≠ k) (j : Nat) : stp k T i j = T i j - T i k * (T k j / T k k) := if_neg h
theorem sg_stp_at {n k : Nat} {T : Nat → Nat → Rat} : sg n (stp k T k) = sg n (T k) / T k k := by
  rw [sg_congr (g := fun j => (T k k)⁻¹ * T k j) fun j _ => by rw [stp_at, Rat.div_def]; grind, sg_mul, Rat.div_def]
  grind
theorem sg_stp_ne {n k i : Nat} {T : Nat → Nat → Rat} (h : i ≠ k) : sg n (stp k T i) = sg n (T i) - T i k * (sg n (T k) / T k k) := by
  rw [sg_congr (g := fun j => T i j + (-(T i k) * (T k k)⁻¹) * T k j) fun j _ => by rw [stp_ne h, Rat.div_def]; grind, sg_add, sg_mul, Rat.div_def]
  grind
theorem Mm.stp {n k : Nat} {T : Nat → Nat → Rat} (m : Mm n T) (hk : k < n) : Mm n (stp k T) := by
  have hp := m.pos hk
  have hv := inv_nn hp
  have hpi : T k k * (T k k)⁻¹ = 1 := Rat.mul_inv_cancel _ (by grind)
  refine ⟨fun i hi j hj hne => ?_, fun i hi => ?_, fun i hi => ?_⟩
  · by_cases e : i = k
    · subst e
      rw [stp_at, Rat.div_def]
      have h1 := m.off i hi j hj hne
      have := Rat.mul_nonneg (a := -T i j) (b := (T i i)⁻¹) (by grind) (by grind)
      grind
    · rw [stp_ne e, Rat.div_def]
      by_cases ej : j = k
      · subst ej
        have : T i j - T i j * (T j j * (T j j)⁻¹) = 0 := by rw [hpi]; grind
        rw [this]
        exact Rat.le_refl
      · have h1 := m.off i hi j hj hne
        have h2 := m.off i hi k hk (fun z => e z.symm)
        have h3 := m.off k hk j hj ej
        have h4 := Rat.mul_nonneg (a := -T i k) (b := -T k j) (by grind) (by grind)
        have h5 := Rat.mul_nonneg h4 (b := (T k k)⁻¹) (by grind)
        grind
  · by_cases e : i = k
    · subst e
      rw [sg_stp_at, Rat.div_def]
      exact Rat.mul_pos (m.sum i hi) hv
    · rw [sg_stp_ne e, Rat.div_def]
      have h1 := m.sum i hi
      have h2 := m.off i hi k hk (fun z => e z.symm)
      have h3 := Rat.mul_pos (m.sum k hk) hv
      have h4 := Rat.mul_nonneg (a := -T i k) (b := sg n (T k) * (T k k)⁻¹) (by grind) (by grind)
      grind
  · by_cases e : i = k
    · subst e
      rw [stp_at, Rat.div_def, hpi]
      exact Rat.le_refl
    · rw [stp_ne e, Rat.div_def]
      have h1 := m.dia i hi
      have h2 := m.off i hi k hk (fun z => e z.symm)
      have h3 := m.off k hk i hi e
      have h4 := Rat.mul_nonneg (a := -T i k) (b := -T k i) (by grind) (by grind)
      have h5 := Rat.mul_nonneg h4 (b := (T k k)⁻¹) (by grind)
      grind
theorem Mm.elm {n : Nat} {T : Nat → Nat → Rat} (m : Mm n T) : ∀ k, k ≤ n → Mm n (elm T k)
  | 0, _ => m
  | k + 1, h => (Mm.elm m k (by omega)).stp (by omega)
end Dh

set_option maxHeartbeats 400000
/-! The plain law: columns, bounds, sizes. -/
namespace Dh
open PySem PySem.Spec PyProof.Rows L2 Ab

theorem elm_unit {n : Nat} {T : Nat → Nat → Rat} (m : Mm n T) : ∀ k, k ≤ n → ∀ j, j < k → ∀ i, i < n → elm T k i j = if i = j then 1 else 0 := by
  intro k
  induction k with
  | zero => intro _ j hj; omega
  | succ k ih =>
    intro hk j hj i hi
    have ih := ih (by omega)
    have hp := (Mm.elm m k (by omega)).pos (i := k) (by omega)
    have hpi : elm T k k k * (elm T k k k)⁻¹ = 1 := Rat.mul_inv_cancel _ (by grind)
    show stp k (elm T k) i j = _
    by_cases e : i = k
    · subst e
      rw [stp_at, Rat.div_def]
      by_cases ej : i = j
      · subst ej
        rw [if_pos rfl, hpi]
      · rw [ih j (by omega) i hi, if_neg ej]
        grind
    · rw [stp_ne e, Rat.div_def]
      by_cases ej : j = k
      · subst ej
        rw [hpi, if_neg e]
        grind
      · rw [ih j (by omega) k (by omega), ih j (by omega) i hi, if_neg (by omega : ¬ k = j)]
        grind
/-- x solves the first n columns for column c -/
def Sol (n : Nat) (T : Nat → Nat → Rat) (x : Nat → Rat) (c : Nat) : Prop := ∀ i, i < n → sg n (fun j => T i j * x j) = T i c
theorem Sol.back {n k c : Nat} {T : Nat → Nat → Rat} {x : Nat → Rat} (hk : k < n) (hp : T k k ≠ 0) (s : Sol n (stp k T) x c) : Sol n T x c := by
  have hpi : T k k * (T k k)⁻¹ = 1 := Rat.mul_inv_cancel _ hp
  have hkk := s k hk
  have e1 : sg n (fun j => stp k T k j * x j) = (T k k)⁻¹ * sg n (fun j => T k j * x j) := by
    rw [← sg_mul]
    exact sg_congr fun j _ => by rw [stp_at, Rat.div_def]; grind
  rw [e1, stp_at, Rat.div_def] at hkk
  have row : sg n (fun j => T k j * x j) = T k c := by
    have : T k k * ((T k k)⁻¹ * sg n (fun j => T k j * x j)) = T k k * (T k c * (T k k)⁻¹) := by rw [hkk]
    have a : T k k * ((T k k)⁻¹ * sg n (fun j => T k j * x j)) = (T k k * (T k k)⁻¹) * sg n (fun j => T k j * x j) := by grind
    have b : T k k * (T k c * (T k k)⁻¹) = (T k k * (T k k)⁻¹) * T k c := by grind
    rw [a, b, hpi] at this
    grind
  intro i hi
  by_cases e : i = k
  · rw [e]
    exact row
  · have hii := s i hi
    have e2 : sg n (fun j => stp k T i j * x j) = sg n (fun j => T i j * x j) + (-(T i k) * (T k k)⁻¹) * sg n (fun j => T k j * x j) := by
      rw [← sg_mul, ← sg_add]
      exact sg_congr fun j _ => by rw [stp_ne e, Rat.div_def]; grind
    rw [e2, stp_ne e, Rat.div_def, row] at hii
    grind
theorem elm_sol {n c : Nat} {T : Nat → Nat → Rat} (m : Mm n T) : Sol n T (fun j => elm T n j c) c := by
  have last : Sol n (elm T n) (fun j => elm T n j c) c := fun i hi => by
    rw [sg_congr (g := fun j => if j = i then elm T n j c else 0) fun j hj => by
      rw [elm_unit m n (Nat.le_refl n) j hj i hi]
      by_cases e : i = j
      · rw [if_pos e, if_pos e.symm]
        grind
      · rw [if_neg e, if_neg (fun z => e z.symm)]
        grind, sg_one hi]
  have all : ∀ k, k ≤ n → Sol n (elm T k) (fun j => elm T n j c) c → Sol n T (fun j => elm T n j c) c := by
    intro k
    induction k with
    | zero => intro _ h; exact h
    | succ k ih =>
      intro hk h
      have hp := (Mm.elm m k (by omega)).pos (i := k) (by omega)
      exact ih (by omega) (Sol.back (by omega) (by grind) h)
  exact all n (Nat.le_refl n) last

/-! ### a column's bound -/
def Bd (n : Nat) (T : Nat → Nat → Rat) (C : Rat) (c : Nat) : Prop := ∀ i, i < n → T i c ≤ C * sg n (T i) ∧ -(C * sg n (T i)) ≤ T i c
theorem Bd.stp {n k c : Nat} {T : Nat → Nat → Rat} {C : Rat} (m : Mm n T) (hk : k < n) (b : Bd n T C c) : Bd n (stp k T) C c := by
  have hp := m.pos hk
  have hv := inv_nn hp
  obtain ⟨k1, k2⟩ := b k hk
  intro i hi
  by_cases e : i = k
  · subst e
    rw [sg_stp_at, stp_at, Rat.div_def, Rat.div_def]
    have h1 := Rat.mul_nonneg (a := C * sg n (T i) - T i c) (b := (T i i)⁻¹) (by grind) (by grind)
    have h2 := Rat.mul_nonneg (a := T i c + C * sg n (T i)) (b := (T i i)⁻¹) (by grind) (by grind)
    exact ⟨by grind, by grind⟩
  · obtain ⟨i1, i2⟩ := b i hi
    rw [sg_stp_ne e, stp_ne e, Rat.div_def, Rat.div_def]
    have h0 := m.off i hi k hk (fun z => e z.symm)
    have h1 := Rat.mul_nonneg (Rat.mul_nonneg (a := C * sg n (T k) - T k c) (b := (T k k)⁻¹) (by grind) (by grind)) (b := -T i k) (by grind)
    have h2 := Rat.mul_nonneg (Rat.mul_nonneg (a := T k c + C * sg n (T k)) (b := (T k k)⁻¹) (by grind) (by grind)) (b := -T i k) (by grind)
    exact ⟨by grind, by grind⟩
theorem Bd.elm {n c : Nat} {T : Nat → Nat → Rat} {C : Rat} (m : Mm n T) (b : Bd n T C c) : ∀ k, k ≤ n → Bd n (elm T k) C c
  | 0, _ => b
  | k + 1, h => Bd.stp (Mm.elm m k (by omega)) (by omega) (Bd.elm m b k (by omega))
theorem Mm.sum1 {n : Nat} {T : Nat → Nat → Rat} (m : Mm n T) {i : Nat} (hi : i < n) : sg n (T i) ≤ 1 := by
  rw [sg_split hi]
  have h2 : sg n (fun j => if j = i then 0 else T i j) ≤ sg n (fun _ => 0) := sg_le fun j hj => by
    by_cases e : j = i
    · rw [if_pos e]
      exact Rat.le_refl
    · rw [if_neg e]
      exact m.off i hi j hj e
  rw [sg_zero] at h2
  have := m.dia i hi
  grind
theorem Bd.flat {n c : Nat} {T : Nat → Nat → Rat} {C : Rat} (m : Mm n T) (hC : 0 ≤ C) (b : Bd n T C c) {i : Nat} (hi : i < n) : T i c ≤ C ∧ -C ≤ T i c := by
  obtain ⟨h1, h2⟩ := b i hi
  have h3 := m.sum1 hi
  have h4 := Rat.mul_nonneg (a := C) (b := 1 - sg n (T i)) hC (by grind)
  exact ⟨by grind, by grind⟩

/-! ### common denominators -/
def Zz (q : Rat) : Prop := ∃ z : Int, q = (z : Rat)
theorem Zz.add {a b : Rat} (ha : Zz a) (hb : Zz b) : Zz (a + b) := by
  obtain ⟨x, rfl⟩ := ha
  obtain ⟨y, rfl⟩ := hb
  exact ⟨x + y, (Rat.intCast_add x y).symm⟩
theorem Zz.mul {a b : Rat} (ha : Zz a) (hb : Zz b) : Zz (a * b) := by
  obtain ⟨x, rfl⟩ := ha
  obtain ⟨y, rfl⟩ := hb
  exact ⟨x * y, (Rat.intCast_mul x y).symm⟩
theorem Zz.sub {a b : Rat} (ha : Zz a) (hb : Zz b) : Zz (a - b) := by
  obtain ⟨x, rfl⟩ := ha
  obtain ⟨y, rfl⟩ := hb
  exact ⟨x - y, (Rat.intCast_sub x y).symm⟩
theorem Zz.nat (n : Nat) : Zz (n : Rat) := ⟨n, rfl⟩
/-- N serves the first n columns, R column c -/
structure Cd (n c : Nat) (T : Nat → Nat → Rat) (N R : Nat) : Prop where
  n0 : 0 < N
  r0 : 0 < R
  en : ∀ i, i < n → ∀ j, j < n → Zz (T i j * N)
  er : ∀ i, i < n → Zz (T i c * R)
theorem Cd.stp {n k c : Nat} {T : Nat → Nat → Rat} {N R : Nat} (m : Mm n T) (hk : k < n) (d : Cd n c T N R) : ∃ P : Nat, P ≤ N ∧ Cd n c (stp k T) (N * P) (R * P) := by
  have hp := m.pos hk
  have hd := m.dia k hk
  have hpi : T k k * (T k k)⁻¹ = 1 := Rat.mul_inv_cancel _ (by grind)
  have hN : (0 : Rat) < (N : Rat) := Rat.natCast_pos.mpr d.n0
  obtain ⟨z, hz⟩ := d.en k hk k hk
  have zp : (0 : Rat) < (z : Rat) := by
    rw [← hz]
    exact Rat.mul_pos hp hN
  have zle : (z : Rat) ≤ (N : Rat) := by
    rw [← hz]
    have := Rat.mul_nonneg (a := 1 - T k k) (b := (N : Rat)) (by grind) (by grind)
    grind
  have zi : 0 < z := Rat.intCast_pos.mp zp
  obtain ⟨P, rfl⟩ := Int.eq_ofNat_of_zero_le (Int.le_of_lt zi)
  have hP : ((P : Nat) : Rat) = T k k * (N : Rat) := by rw [hz]; rfl
  have e1 : ((N * P : Nat) : Rat) = (N : Rat) * (P : Rat) := Rat.natCast_mul N P
  have e2 : ((R * P : Nat) : Rat) = (R : Rat) * (P : Rat) := Rat.natCast_mul R P
  have quo : ∀ a b : Rat, a * (T k k)⁻¹ * (b * (P : Rat)) = a * b * (N : Rat) := fun a b => by
    rw [hP]
    have : a * (T k k)⁻¹ * (b * (T k k * (N : Rat))) = (T k k * (T k k)⁻¹) * (a * b * (N : Rat)) := by grind
    rw [this, hpi]
    grind
  refine ⟨P, ?_, Nat.mul_pos d.n0 (by omega), Nat.mul_pos d.r0 (by omega), fun i hi j hj => ?_, fun i hi => ?_⟩
  · have : ((P : Nat) : Rat) ≤ (N : Rat) := zle
    exact Rat.natCast_le_natCast.mp this
  · rw [e1]
    by_cases e : i = k
    · subst e
      rw [stp_at, Rat.div_def, quo]
      exact (d.en i hi j hj).mul (Zz.nat N)
    · rw [stp_ne e, Rat.div_def]
      have : (T i j - T i k * (T k j * (T k k)⁻¹)) * ((N : Rat) * (P : Rat)) = T i j * N * P - T i k * (T k j * (T k k)⁻¹ * ((N : Rat) * (P : Rat))) := by grind
      rw [this, quo]
      have : T i k * (T k j * (N : Rat) * (N : Rat)) = (T i k * N) * (T k j * N) := by grind
      rw [this]
      exact ((d.en i hi j hj).mul (Zz.nat P)).sub ((d.en i hi k hk).mul (d.en k hk j hj))
  · rw [e2]
    by_cases e : i = k
    · subst e
      rw [stp_at, Rat.div_def, quo]
      exact (d.er i hi).mul (Zz.nat N)
    · rw [stp_ne e, Rat.div_def]
      have : (T i c - T i k * (T k c * (T k k)⁻¹)) * ((R : Rat) * (P : Rat)) = T i c * R * P - T i k * (T k c * (T k k)⁻¹ * ((R : Rat) * (P : Rat))) := by grind
      rw [this, quo]
      have : T i k * (T k c * (R : Rat) * (N : Rat)) = (T i k * N) * (T k c * R) := by grind
      rw [this]
      exact ((d.er i hi).mul (Zz.nat P)).sub ((d.en i hi k hk).mul (d.er k hk))
theorem Cd.elm {n c : Nat} {T : Nat → Nat → Rat} {N R a b : Nat} (m : Mm n T) (d : Cd n c T N R) (hN : N ≤ 2 ^ a) (hR : R ≤ 2 ^ b) : ∀ k, k ≤ n → ∃ N' R' : Nat, Cd n c (elm T k) N' R' ∧ N' ≤ 2 ^ (a * 2 ^ k) ∧ R' ≤ 2 ^ (b + a * (2 ^ k - 1))
  | 0, _ => ⟨N, R, d, by simpa using hN, by simpa using hR⟩
  | k + 1, h => by
    obtain ⟨N1, R1, d1, h1, h2⟩ := Cd.elm m d hN hR k (by omega)
    obtain ⟨P, hP, d2⟩ := Cd.stp (k := k) (Mm.elm m k (by omega)) (by omega) d1
    refine ⟨N1 * P, R1 * P, d2, ?_, ?_⟩
    · have : 2 ^ (a * 2 ^ (k + 1)) = 2 ^ (a * 2 ^ k) * 2 ^ (a * 2 ^ k) := by
        rw [← Nat.pow_add]
        congr 1
        rw [Nat.pow_succ, ← Nat.mul_assoc]
        omega
      rw [this]
      exact Nat.mul_le_mul h1 (Nat.le_trans hP h1)
    · have hpos : 1 ≤ 2 ^ k := Nat.one_le_two_pow
      have : 2 ^ (b + a * (2 ^ (k + 1) - 1)) = 2 ^ (b + a * (2 ^ k - 1)) * 2 ^ (a * 2 ^ k) := by
        rw [← Nat.pow_add]
        congr 1
        have e : 2 ^ (k + 1) - 1 = (2 ^ k - 1) + 2 ^ k := by
          rw [Nat.pow_succ]
          omega
        rw [e, Nat.mul_add]
        omega
      rw [this]
      exact Nat.mul_le_mul h2 (Nat.le_trans hP h1)
theorem sz_of {q : Rat} {N a c : Nat} (h0 : 0 < N) (hN : N ≤ 2 ^ a) (hz : Zz (q * N)) (h1 : q ≤ ((2 ^ c : Nat) : Rat)) (h2 : -((2 ^ c : Nat) : Rat) ≤ q) : Sz (a + c + 1) (a + 1) q := by
  obtain ⟨z, hz⟩ := hz
  have hN' : (0 : Rat) < (N : Rat) := Rat.natCast_pos.mpr h0
  have hinv : (N : Rat) * (N : Rat)⁻¹ = 1 := Rat.mul_inv_cancel _ (by grind)
  have e : q = mkRat z N := by
    rw [Rat.mkRat_eq_div, Rat.div_def, ← hz]
    have : q * (N : Rat) * (N : Rat)⁻¹ = q * ((N : Rat) * (N : Rat)⁻¹) := by grind
    rw [this, hinv]
    grind
  rw [e]
  have b1 : (z : Rat) ≤ ((2 ^ c * N : Nat) : Rat) := by
    rw [← hz, Rat.natCast_mul]
    have := Rat.mul_nonneg (a := ((2 ^ c : Nat) : Rat) - q) (b := (N : Rat)) (by grind) (by grind)
    grind
  have b2 : -((2 ^ c * N : Nat) : Rat) ≤ (z : Rat) := by
    rw [← hz, Rat.natCast_mul]
    have := Rat.mul_nonneg (a := q + ((2 ^ c : Nat) : Rat)) (b := (N : Rat)) (by grind) (by grind)
    grind
  have c1 : z ≤ ((2 ^ c * N : Nat) : Int) := Rat.intCast_le_intCast.mp b1
  have c2 : -((2 ^ c * N : Nat) : Int) ≤ z := by
    apply Rat.intCast_le_intCast.mp
    rw [Rat.intCast_neg]
    exact b2
  have d1 : 2 ^ c * N ≤ 2 ^ (a + c) := by
    rw [Nat.pow_add, Nat.mul_comm (2 ^ a)]
    exact Nat.mul_le_mul_left _ hN
  have d2 : 2 ^ (a + c) < 2 ^ (a + c + 1) := Nat.pow_lt_pow_right (by decide) (by omega)
  have d3 : 2 ^ a < 2 ^ (a + 1) := Nat.pow_lt_pow_right (by decide) (by omega)
  refine sz_div z N (by omega) ?_ (Nat.lt_of_le_of_lt hN d3)
  generalize 2 ^ c * N = M at c1 c2 d1
  omega
end Dh

set_option maxHeartbeats 400000
/-! The plain law: the table of a house. -/
namespace Dh
open PySem PySem.Spec PyProof.Rows L2 Ab

theorem cvq_cons (p : Nat × Rat) (l : List (Nat × Rat)) (j : Nat) : cv (p :: l) j = if j = p.1 then p.2 else cv l j := by
  unfold cv
  by_cases e : j = p.1
  · rw [if_pos e, List.find?_cons_of_pos (by simp [e])]
    rfl
  · rw [if_neg e, List.find?_cons_of_neg (by simpa using fun z => e z.symm)]
theorem cvq_none {l : List (Nat × Rat)} {j : Nat} (h : j ∉ l.map (·.1)) : cv l j = 0 := by
  unfold cv
  have : l.find? (fun p => decide (p.1 = j)) = none := by
    rw [List.find?_eq_none]
    intro p hp hq
    exact h (List.mem_map.mpr ⟨p, hp, of_decide_eq_true hq⟩)
  rw [this]
  rfl
theorem cvq_sum (n : Nat) (v : Nat → Rat) : ∀ l : List (Nat × Rat), (∀ p ∈ l, p.1 < n) → (l.map (·.1)).Nodup → sumR (l.map fun p : Nat × Rat => p.2 * v p.1) = sg n (fun j => cv l j * v j)
  | [], _, _ => by
    show (0 : Rat) = _
    rw [sg_congr (g := fun _ => 0) fun j _ => by show (0 : Rat) * v j = 0; grind, sg_zero]
  | p :: l, hk, hd => by
    have hd' := List.nodup_cons.mp hd
    have ih := cvq_sum n v l (fun q hq => hk q (List.mem_cons_of_mem _ hq)) hd'.2
    rw [List.map_cons, sumR_cons, ih]
    have e : sg n (fun j => cv (p :: l) j * v j) = sg n (fun j => (if j = p.1 then p.2 * v j else 0) + cv l j * v j) := sg_congr fun j _ => by
      rw [cvq_cons]
      by_cases z : j = p.1
      · rw [if_pos z, if_pos z, z, cvq_none hd'.1]
        grind
      · rw [if_neg z, if_neg z]
        grind
    rw [e, sg_add, sg_one (hk p List.mem_cons_self) fun j => p.2 * v j]
theorem ch_nd {n : Nat} {ch : List (Nat × Rat)} (h : ChOk n ch) : (ch.map (·.1)).Nodup := h.asc.imp fun {a b} z => Nat.ne_of_lt z
theorem ahead_sg {n : Nat} {ch : List (Nat × Rat)} (h : ChOk n ch) (v : Nat → Rat) : ahead ch v = sg n (fun j => cv ch j * v j) := cvq_sum n v ch h.key (ch_nd h)
theorem cv_one {n : Nat} {ch : List (Nat × Rat)} (h : ChOk n ch) : sg n (cv ch) = 1 := by
  have := ahead_sg h (fun _ => 1)
  rw [sg_congr (g := fun j => cv ch j * 1) fun j _ => by grind, ← this]
  unfold ahead
  rw [List.map_congr_left (g := fun p : Nat × Rat => p.2) fun p _ => Rat.mul_one p.2]
  exact h.sum
theorem cv_nn {n : Nat} {ch : List (Nat × Rat)} (h : ChOk n ch) (j : Nat) : 0 ≤ cv ch j := by
  unfold cv
  cases e : ch.find? (fun p => decide (p.1 = j)) with
  | none => exact Rat.le_refl
  | some p => exact Rat.le_of_lt (h.pos p (List.mem_of_find?_eq_some e))
theorem cv_den {ch : List (Nat × Rat)} {D : Nat} (h : ∀ p ∈ ch, p.2.den ∣ D) (j : Nat) : (cv ch j).den ∣ D := by
  unfold cv
  cases e : ch.find? (fun p => decide (p.1 = j)) with
  | none => exact Nat.one_dvd D
  | some p => exact h p (List.mem_of_find?_eq_some e)
theorem zz_den {q : Rat} {M : Nat} (h : q.den ∣ M) : Zz (q * M) := by
  obtain ⟨k, rfl⟩ := h
  refine ⟨q.num * k, ?_⟩
  have e : q = mkRat q.num q.den := (Rat.mkRat_self q).symm
  have hd : ((q.den : Nat) : Rat) ≠ 0 := fun z => q.den_nz (Rat.natCast_eq_zero_iff.mp z)
  have hi : ((q.den : Nat) : Rat) * ((q.den : Nat) : Rat)⁻¹ = 1 := Rat.mul_inv_cancel _ hd
  have e2 : q = (q.num : Rat) * ((q.den : Nat) : Rat)⁻¹ := by
    conv => lhs; rw [e, Rat.mkRat_eq_div, Rat.div_def]
  have e3 : q * ((q.den : Nat) : Rat) = (q.num : Rat) := by
    generalize ((q.den : Nat) : Rat) = d at *
    have : q * d = (q.num : Rat) * (d * d⁻¹) := by
      have := congrArg (fun z => z * d) e2
      grind
    rw [this, hi]
    grind
  rw [Rat.natCast_mul, Rat.intCast_mul, ← e3]
  show q * ((q.den : Rat) * (k : Rat)) = q * (q.den : Rat) * (k : Rat)
  grind
theorem sz_abs {a b : Nat} {q : Rat} (h : Sz a b q) : q ≤ ((2 ^ a : Nat) : Rat) ∧ -((2 ^ a : Nat) : Rat) ≤ q := by
  have hd := q.den_pos
  have h1 := h.1
  have key : ∀ z : Rat, z.num.natAbs < 2 ^ a → z ≤ ((2 ^ a : Nat) : Rat) := fun z hz => by
    rw [Rat.le_iff]
    have e1 : (((2 ^ a : Nat) : Rat)).num = ((2 ^ a : Nat) : Int) := rfl
    have e2 : (((2 ^ a : Nat) : Rat)).den = 1 := rfl
    rw [e1, e2]
    generalize 2 ^ a = M at hz
    have hp := z.den_pos
    have : (M : Int) * 1 ≤ (M : Int) * (z.den : Int) := Int.mul_le_mul_of_nonneg_left (by omega) (by omega)
    omega
  refine ⟨key q h1, ?_⟩
  have := key (-q) (by rw [Rat.neg_num, Int.natAbs_neg]; exact h1)
  grind
def prodN (n : Nat) (f : Nat → Nat) : Nat := match n with
  | 0 => 1
  | n + 1 => prodN n f * f n
theorem prodN_pos {n : Nat} {f : Nat → Nat} (h : ∀ i, i < n → 0 < f i) : 0 < prodN n f := by
  induction n with
  | zero => exact Nat.one_pos
  | succ n ih => exact Nat.mul_pos (ih fun i hi => h i (by omega)) (h n (by omega))
theorem prodN_dvd {n : Nat} {f : Nat → Nat} {i : Nat} (hi : i < n) : f i ∣ prodN n f := by
  induction n with
  | zero => omega
  | succ n ih =>
    by_cases e : i = n
    · subst e
      exact Nat.dvd_mul_left _ _
    · exact Nat.dvd_trans (ih (by omega)) (Nat.dvd_mul_right _ _)
theorem prodN_le {n b : Nat} {f : Nat → Nat} (h : ∀ i, i < n → f i ≤ 2 ^ b) : prodN n f ≤ 2 ^ (b * n) := by
  induction n with
  | zero => exact Nat.le_refl _
  | succ n ih =>
    rw [Nat.mul_succ, Nat.pow_add]
    exact Nat.mul_le_mul (ih fun i hi => h i (by omega)) (h n (by omega))

section
variable {h : Hs} {c : List Nat}
theorem tab_in (h : Hs) (c : List Nat) {i j : Nat} (hj : j < h.n) : tabl h c i j = (if j = i then 1 else 0) - h.sh * mvs h c i j := by
  unfold tabl aug
  rw [if_pos hj]
theorem tab_out (h : Hs) (c : List Nat) (i p : Nat) : tabl h c i (h.n + p) = gvs h c i p := by
  unfold tabl aug
  rw [if_neg (by omega), Nat.add_sub_cancel_left]
theorem tab_sum (ok : HsOk h) (hc : ChoOk h c) {i : Nat} (hi : i < h.n) : sg h.n (tabl h c i) = 1 - h.sh := by
  rw [sg_congr (g := fun j => (if j = i then 1 else 0) + (-h.sh) * mvs h c i j) fun j hj => by rw [tab_in h c hj]; grind, sg_add, sg_mul, sg_one hi fun _ => 1]
  have : sg h.n (mvs h c i) = 1 := cv_one (ok.deed hi (hc.lt i hi)).ch
  rw [this]
  grind
theorem tab_mm (ok : HsOk h) (hc : ChoOk h c) : Mm h.n (tabl h c) := by
  have h0 := ok.h0
  have h1 := ok.h1
  refine ⟨fun i hi j hj hne => ?_, fun i hi => ?_, fun i hi => ?_⟩
  · rw [tab_in h c hj, if_neg hne]
    have := Rat.mul_nonneg h0 (cv_nn (ok.deed hi (hc.lt i hi)).ch j)
    show 0 - h.sh * cv _ j ≤ 0
    grind
  · rw [tab_sum ok hc hi]
    grind
  · rw [tab_in h c hi, if_pos rfl]
    have := Rat.mul_nonneg h0 (cv_nn (ok.deed hi (hc.lt i hi)).ch i)
    show 1 - h.sh * cv _ i ≤ 1
    grind
theorem share_room (ok : HsOk h) : 1 ≤ ((2 ^ 6 : Nat) : Rat) * (1 - h.sh) := by
  have hd := ok.hd
  have h1 := ok.h1
  have z := zz_den (q := h.sh) (Nat.dvd_refl h.sh.den)
  obtain ⟨m, hm⟩ := z
  have hp : (0 : Rat) < ((h.sh.den : Nat) : Rat) := Rat.natCast_pos.mpr h.sh.den_pos
  have hlt : (m : Rat) < ((h.sh.den : Nat) : Rat) := by
    rw [← hm]
    have := Rat.mul_pos (a := 1 - h.sh) (b := ((h.sh.den : Nat) : Rat)) (by grind) hp
    grind
  have hlt2 : m < (h.sh.den : Int) := Rat.intCast_lt_intCast.mp hlt
  have hle : ((m + 1 : Int) : Rat) ≤ (((h.sh.den : Nat) : Int) : Rat) := Rat.intCast_le_intCast.mpr (by omega)
  rw [Rat.intCast_add] at hle
  have e1 : ((1 : Int) : Rat) = 1 := rfl
  have e2 : (((h.sh.den : Nat) : Int) : Rat) = ((h.sh.den : Nat) : Rat) := rfl
  rw [e1, e2, ← hm] at hle
  have h64 : ((h.sh.den : Nat) : Rat) ≤ ((2 ^ 6 : Nat) : Rat) := Rat.natCast_le_natCast.mpr (Nat.le_of_lt hd)
  have := Rat.mul_nonneg (a := ((2 ^ 6 : Nat) : Rat) - ((h.sh.den : Nat) : Rat)) (b := 1 - h.sh) (by grind) (by grind)
  grind
theorem gvs_sz (ok : HsOk h) (hc : ChoOk h c) {i p : Nat} (hi : i < h.n) (hp : p < h.k) : Sz 80 40 (gvs h c i p) := by
  have d := ok.deed hi (hc.lt i hi)
  have hl := d.gl
  unfold gvs
  rw [List.getD_eq_getElem?_getD, List.getElem?_eq_getElem (by omega)]
  exact d.gs _ (List.getElem_mem _)
theorem tab_bd (ok : HsOk h) (hc : ChoOk h c) {p : Nat} (hp : p < h.k) : Bd h.n (tabl h c) ((2 ^ 86 : Nat) : Rat) (h.n + p) := fun i hi => by
  rw [tab_out, tab_sum ok hc hi]
  obtain ⟨a1, a2⟩ := sz_abs (gvs_sz ok hc hi hp)
  have r := share_room ok
  have e : ((2 ^ 86 : Nat) : Rat) = ((2 ^ 80 : Nat) : Rat) * ((2 ^ 6 : Nat) : Rat) := by rw [← Rat.natCast_mul, ← Nat.pow_add]
  have h80 : (0 : Rat) ≤ ((2 ^ 80 : Nat) : Rat) := Rat.natCast_nonneg
  have := Rat.mul_nonneg h80 (b := ((2 ^ 6 : Nat) : Rat) * (1 - h.sh) - 1) (by grind)
  rw [e]
  generalize ((2 ^ 80 : Nat) : Rat) = A at *
  generalize ((2 ^ 6 : Nat) : Rat) = B at *
  exact ⟨by grind, by grind⟩
theorem tab_cd (ok : HsOk h) (hc : ChoOk h c) {p : Nat} (hp : p < h.k) : ∃ N R : Nat, Cd h.n (h.n + p) (tabl h c) N R ∧ N ≤ 2 ^ 38 ∧ R ≤ 2 ^ 160 := by
  have n4 := ok.n4
  have hD : ∀ i, ∃ D : Nat, 0 < D ∧ D ≤ 2 ^ 8 ∧ (i < h.n → ∀ q ∈ (deed h i (c.getD i 0)).ch, q.2.den ∣ D) := fun i => by
    by_cases hi : i < h.n
    · obtain ⟨D, d1, d2, d3⟩ := (ok.deed hi (hc.lt i hi)).ch.den
      exact ⟨D, d1, Nat.le_of_lt d2, fun _ => d3⟩
    · exact ⟨1, by decide, by decide, fun z => absurd z hi⟩
  obtain ⟨D, hD⟩ : ∃ D : Nat → Nat, ∀ i, 0 < D i ∧ D i ≤ 2 ^ 8 ∧ (i < h.n → ∀ q ∈ (deed h i (c.getD i 0)).ch, q.2.den ∣ D i) := ⟨fun i => (hD i).choose, fun i => (hD i).choose_spec⟩
  refine ⟨h.sh.den * prodN h.n D, prodN h.n fun i => (gvs h c i p).den, ⟨Nat.mul_pos h.sh.den_pos (prodN_pos fun i _ => (hD i).1), prodN_pos fun i _ => (gvs h c i p).den_pos, fun i hi j hj => ?_, fun i hi => ?_⟩, ?_, ?_⟩
  · rw [tab_in h c hj]
    have e : ((if j = i then 1 else 0) - h.sh * mvs h c i j) * ((h.sh.den * prodN h.n D : Nat) : Rat) = (if j = i then 1 else 0) * ((h.sh.den * prodN h.n D : Nat) : Rat) - (h.sh * ((h.sh.den : Nat) : Rat)) * (mvs h c i j * ((prodN h.n D : Nat) : Rat)) := by
      rw [Rat.natCast_mul]
      grind
    rw [e]
    refine Zz.sub (Zz.mul ?_ (Zz.nat _)) (Zz.mul (zz_den (Nat.dvd_refl _)) (zz_den (Nat.dvd_trans (cv_den ((hD i).2.2 hi) j) (prodN_dvd hi))))
    split
    · exact ⟨1, rfl⟩
    · exact ⟨0, rfl⟩
  · rw [tab_out]
    exact zz_den (prodN_dvd (f := fun i => (gvs h c i p).den) hi)
  · have h1 := prodN_le (n := h.n) (b := 8) (f := D) fun i _ => (hD i).2.1
    have h2 : 2 ^ (8 * h.n) ≤ 2 ^ 32 := Nat.pow_le_pow_right (by decide) (by omega)
    have h3 : 2 ^ 38 = 2 ^ 6 * 2 ^ 32 := by decide
    rw [h3]
    exact Nat.mul_le_mul (Nat.le_of_lt ok.hd) (Nat.le_trans h1 h2)
  · have h1 := prodN_le (n := h.n) (b := 40) (f := fun i => (gvs h c i p).den) fun i hi => Nat.le_of_lt (gvs_sz ok hc hi hp).2
    exact Nat.le_trans h1 (Nat.pow_le_pow_right (by decide) (by omega))
theorem elim_ok (ok : HsOk h) (hc : ChoOk h c) : ElimOk h.n (h.n + h.k) (tabl h c) := by
  have n4 := ok.n4
  have k1 := ok.k1
  have k4 := ok.k4
  have m := tab_mm ok hc
  have pw : ∀ k, k ≤ h.n → 2 ^ k ≤ 16 := fun k hk => Nat.le_trans (Nat.pow_le_pow_right (by decide) (by omega : k ≤ 4)) (by decide)
  refine ⟨ok.n1, by omega, by omega, by omega, fun k hk i hi j hj => ?_, fun k hk => ?_⟩
  · have mk := Mm.elm m k hk
    have pk := pw k hk
    by_cases z : j < h.n
    · obtain ⟨N, R, cd, a1, a2⟩ := tab_cd ok hc (p := 0) (by omega)
      obtain ⟨N', R', cd', b1, b2⟩ := Cd.elm m cd a1 a2 k hk
      obtain ⟨l1, l2⟩ := mk.low hi z
      have e : ((2 ^ 0 : Nat) : Rat) = 1 := rfl
      exact (sz_of (c := 0) cd'.n0 b1 (cd'.en i hi j z) (by rw [e]; exact l2) (by rw [e]; exact l1)).mono (by omega) (by omega)
    · obtain ⟨p, rfl⟩ := Nat.exists_eq_add_of_le (Nat.le_of_not_lt z)
      obtain ⟨N, R, cd, a1, a2⟩ := tab_cd ok hc (p := p) (by omega)
      obtain ⟨N', R', cd', b1, b2⟩ := Cd.elm m cd a1 a2 k hk
      obtain ⟨l1, l2⟩ := (Bd.elm m (tab_bd ok hc (p := p) (by omega)) k hk).flat mk Rat.natCast_nonneg hi
      exact (sz_of (c := 86) cd'.r0 b2 (cd'.er i hi) l1 l2).mono (by omega) (by omega)
  · have := (Mm.elm m k (by omega)).pos (i := k) hk
    grind
end
end Dh

set_option maxHeartbeats 400000
/-! The plain law: worths compared, the turns end. -/
namespace Dh
open PySem PySem.Spec PyProof.Rows L2 Ab

theorem sg_comm (n k : Nat) (f : Nat → Nat → Rat) : sg n (fun j => sg k (fun p => f j p)) = sg k (fun p => sg n (fun j => f j p)) := by
  induction n with
  | zero =>
    show (0 : Rat) = sg k (fun _ => 0)
    rw [sg_zero]
  | succ n ih =>
    show sg n (fun j => sg k (fun p => f j p)) + sg k (fun p => f n p) = sg k (fun p => sg n (fun j => f j p) + f n p)
    rw [ih, sg_add]
theorem sumR_row (n : Nat) (f : Nat → Rat) : sumR (row n f) = sg n f := by
  induction n with
  | zero => rfl
  | succ n ih =>
    unfold row
    rw [List.range_succ, List.map_append]
    show sumR (row n f ++ [f n]) = _
    rw [sumR_snoc, ih]
    rfl
theorem dot_row (k : Nat) (f g : Nat → Rat) : dotR (row k f) (row k g) = sg k (fun p => f p * g p) := by
  unfold dotR
  rw [zip_row, List.map_map]
  exact sumR_row k fun p => f p * g p
theorem rowq_of {l : List Rat} {n : Nat} (h : l.length = n) : l = row n fun i => l.getD i 0 := by
  subst h
  unfold row
  apply List.ext_getElem?
  intro i
  by_cases hi : i < l.length
  · rw [List.getElem?_map, List.getElem?_range hi, List.getElem?_eq_getElem hi]
    simp [List.getD_eq_getElem?_getD, List.getElem?_eq_getElem hi]
  · rw [List.getElem?_eq_none (by omega), List.getElem?_eq_none (by rw [List.length_map, List.length_range]; omega)]
theorem dot_sg {w ga : List Rat} {k : Nat} (hw : w.length = k) (hg : ga.length = k) : dotR w ga = sg k (fun p => w.getD p 0 * ga.getD p 0) := by
  conv => lhs; rw [rowq_of hw, rowq_of hg]
  exact dot_row k _ _

/-! ### the least one of a row of numbers -/
theorem ex_min (n : Nat) (f : Nat → Rat) (h : 0 < n) : ∃ i, i < n ∧ ∀ j, j < n → f i ≤ f j := by
  induction n with
  | zero => omega
  | succ n ih =>
    by_cases e : n = 0
    · subst e
      exact ⟨0, by omega, fun j hj => by
        have : j = 0 := by omega
        rw [this]
        exact Rat.le_refl⟩
    · obtain ⟨i, hi, hm⟩ := ih (by omega)
      by_cases l : f i ≤ f n
      · exact ⟨i, by omega, fun j hj => by
          by_cases z : j = n
          · rw [z]
            exact l
          · exact hm j (by omega)⟩
      · exact ⟨n, by omega, fun j hj => by
          by_cases z : j = n
          · rw [z]
            exact Rat.le_refl
          · have := hm j (by omega)
            grind⟩
/-- where the images are nowhere below 0, so is what they come from -/
theorem mm_mono {n : Nat} {T : Nat → Nat → Rat} (m : Mm n T) {d : Nat → Rat} (h : ∀ i, i < n → 0 ≤ sg n (fun j => T i j * d j)) : ∀ i, i < n → 0 ≤ d i := by
  intro i0 hi0
  obtain ⟨i, hi, hm⟩ := ex_min n d (by omega)
  have hd : 0 ≤ d i := by
    by_cases z : 0 ≤ d i
    · exact z
    · have h1 := h i hi
      have h2 : sg n (fun j => T i j * d j) ≤ sg n (fun j => d i * T i j) := sg_le fun j hj => by
        by_cases e : j = i
        · rw [e]
          grind
        · have h3 := m.off i hi j hj e
          have h4 := Rat.mul_nonneg (a := -T i j) (b := d j - d i) (by grind) (by have := hm j hj; grind)
          grind
      rw [sg_mul] at h2
      have h3 := Rat.mul_pos (a := -d i) (b := sg n (T i)) (by grind) (m.sum i hi)
      grind
  have := hm i0 hi0
  grind
theorem least_min (l : List Rat) : ∀ n, n ≤ l.length → ∀ j, j < n → l.getD ((List.range n).foldl (fun at' i => if l.getD i 0 < l.getD at' 0 then i else at') 0) 0 ≤ l.getD j 0 := by
  intro n
  induction n with
  | zero => intro _ j hj; omega
  | succ n ih =>
    intro hn j hj
    rw [List.range_succ, List.foldl_append]
    show l.getD (if _ < _ then n else _) 0 ≤ _
    have ih := ih (by omega)
    split
    next hlt =>
      by_cases e : j = n
      · rw [e]
        exact Rat.le_refl
      · exact Rat.le_trans (Rat.le_of_lt hlt) (ih j (by omega))
    next hge =>
      by_cases e : j = n
      · rw [e]
        exact Rat.not_lt.mp hge
      · exact ih j (by omega)
theorem least_is (l : List Rat) {j : Nat} (hj : j < l.length) : l.getD (leastIx l) 0 ≤ l.getD j 0 := least_min l l.length (Nat.le_refl _) j hj

/-! ### worths -/
section
variable {h : Hs} {w : List Rat} {c c' : List Nat}
theorem hts_sg (ow : w.length = h.k) (i : Nat) : hts h w c i = sg h.k (fun p => w.getD p 0 * elm (tabl h c) h.n i (h.n + p)) := by
  unfold hts
  conv => lhs; rw [rowq_of ow]
  exact dot_row h.k _ _
theorem hts_eq (ok : HsOk h) (ow : w.length = h.k) (hc : ChoOk h c) {i : Nat} (hi : i < h.n) : sg h.n (fun j => tabl h c i j * hts h w c j) = dotR w (deed h i (c.getD i 0)).ga := by
  have m := tab_mm ok hc
  rw [sg_congr (g := fun j => sg h.k (fun p => w.getD p 0 * (tabl h c i j * elm (tabl h c) h.n j (h.n + p)))) fun j hj => by
    rw [hts_sg ow, ← sg_mul]
    exact sg_congr fun p _ => by grind, sg_comm]
  rw [dot_sg ow (ok.deed hi (hc.lt i hi)).gl]
  refine sg_congr fun p hp => ?_
  rw [sg_mul, elm_sol m (c := h.n + p) i hi, tab_out]
  rfl
theorem row_gap (ok : HsOk h) (hc : ChoOk h c) (v : Nat → Rat) {i : Nat} (hi : i < h.n) : sg h.n (fun j => tabl h c i j * v j) = gap h w v i (c.getD i 0) + dotR w (deed h i (c.getD i 0)).ga := by
  unfold gap
  rw [ahead_sg (ok.deed hi (hc.lt i hi)).ch, sg_congr (g := fun j => (if j = i then v j else 0) + (-h.sh) * (mvs h c i j * v j)) fun j hj => by
    rw [tab_in h c hj]
    by_cases e : j = i
    · rw [if_pos e, if_pos e]
      grind
    · rw [if_neg e, if_neg e]
      grind, sg_add, sg_mul, sg_one hi v]
  show v i + -h.sh * sg h.n (fun j => cv _ j * v j) = _
  grind
theorem sg_sub (n : Nat) (f g : Nat → Rat) : sg n (fun j => f j - g j) = sg n f - sg n g := by
  rw [sg_congr (g := fun j => f j + (-1) * g j) fun j _ => by grind, sg_add, sg_mul]
  grind
theorem cmp_le (ok : HsOk h) (ow : w.length = h.k) (hc : ChoOk h c) {v : Nat → Rat} (hg : ∀ i, i < h.n → gap h w v i (c.getD i 0) ≤ 0) : ∀ i, i < h.n → v i ≤ hts h w c i := fun i hi => by
  have := mm_mono (tab_mm ok hc) (d := fun j => hts h w c j - v j) (fun i hi => by
    rw [sg_congr (g := fun j => tabl h c i j * hts h w c j - tabl h c i j * v j) fun j _ => by grind, sg_sub, hts_eq ok ow hc hi, row_gap (w := w) ok hc v hi]
    have := hg i hi
    grind) i hi
  have : 0 ≤ hts h w c i - v i := this
  grind
theorem cmp_ge (ok : HsOk h) (ow : w.length = h.k) (hc : ChoOk h c) {v : Nat → Rat} (hg : ∀ i, i < h.n → 0 ≤ gap h w v i (c.getD i 0)) : ∀ i, i < h.n → hts h w c i ≤ v i := fun i hi => by
  have := mm_mono (tab_mm ok hc) (d := fun j => v j - hts h w c j) (fun i hi => by
    rw [sg_congr (g := fun j => tabl h c i j * v j - tabl h c i j * hts h w c j) fun j _ => by grind, sg_sub, hts_eq ok ow hc hi, row_gap (w := w) ok hc v hi]
    have := hg i hi
    grind) i hi
  have : 0 ≤ v i - hts h w c i := this
  grind
theorem gap_own (ok : HsOk h) (ow : w.length = h.k) (hc : ChoOk h c) {i : Nat} (hi : i < h.n) : gap h w (hts h w c) i (c.getD i 0) = 0 := by
  have h1 := row_gap (w := w) ok hc (hts h w c) hi
  rw [hts_eq ok ow hc hi] at h1
  grind
theorem gap_congr (ok : HsOk h) {v u : Nat → Rat} {i a : Nat} (hi : i < h.n) (ha : a < (stand h i).length) (e : ∀ j, j < h.n → v j = u j) : gap h w v i a = gap h w u i a := by
  unfold gap
  rw [ahead_sg (ok.deed hi ha).ch, ahead_sg (ok.deed hi ha).ch, e i hi, sg_congr (n := h.n) (g := fun j => cv (deed h i a).ch j * u j) fun j hj => by rw [e j hj]]
theorem turn_at (h : Hs) (w : List Rat) (c : List Nat) {i : Nat} (hi : i < h.n) : (turn h w c).getD i 0 = better (gapRow h w (hts h w c) i) (c.getD i 0) := by
  unfold turn
  rw [List.getD_eq_getElem?_getD, List.getElem?_map, List.getElem?_range hi]
  rfl
theorem gapRow_at (h : Hs) (w : List Rat) (v : Nat → Rat) {i a : Nat} (ha : a < (stand h i).length) : (gapRow h w v i).getD a 0 = gap h w v i a := by
  unfold gapRow row
  rw [List.getD_eq_getElem?_getD, List.getElem?_map, List.getElem?_range ha]
  rfl
theorem gapRow_len (h : Hs) (w : List Rat) (v : Nat → Rat) (i : Nat) : (gapRow h w v i).length = (stand h i).length := row_len _ _
theorem least_in (h : Hs) (w : List Rat) (v : Nat → Rat) {i : Nat} (h0 : 0 < (stand h i).length) : leastIx (gapRow h w v i) < (stand h i).length := by
  have hl := gapRow_len h w v i
  have := leastIx_lt (gapRow h w v i) (by omega) (gapRow h w v i).length (Nat.le_refl _)
  show (List.range _).foldl _ 0 < _
  omega
theorem turn_cho (hc : ChoOk h c) : ChoOk h (turn h w c) := by
  refine ⟨by unfold turn; rw [List.length_map, List.length_range], fun i hi => ?_⟩
  have := hc.lt i hi
  rw [turn_at h w c hi]
  unfold better
  split
  · exact least_in h w _ (by omega)
  · exact this
/-- a turn's deed at a stand: the same one, or one with a gap below 0 -/
theorem turn_gap (ok : HsOk h) (ow : w.length = h.k) (hc : ChoOk h c) {i : Nat} (hi : i < h.n) : ((turn h w c).getD i 0 = c.getD i 0 ∧ 0 ≤ (gapRow h w (hts h w c) i).getD (leastIx (gapRow h w (hts h w c) i)) 0) ∨ gap h w (hts h w c) i ((turn h w c).getD i 0) < 0 := by
  have hl := hc.lt i hi
  rw [turn_at h w c hi]
  unfold better
  split
  next hn =>
    right
    rw [gapRow_at h w _ (least_in h w _ (by omega))] at hn
    exact hn
  next hn => exact .inl ⟨rfl, Rat.not_lt.mp hn⟩
theorem turn_up (ok : HsOk h) (ow : w.length = h.k) (hc : ChoOk h c) : ∀ i, i < h.n → hts h w c i ≤ hts h w (turn h w c) i := by
  refine cmp_le ok ow (turn_cho hc) fun i hi => ?_
  rcases turn_gap ok ow hc hi with ⟨e, _⟩ | e
  · rw [e, gap_own ok ow hc hi]
    exact Rat.le_refl
  · exact Rat.le_of_lt e
theorem turn_new (ok : HsOk h) (ow : w.length = h.k) (hc : ChoOk h c) (hn : turn h w c ≠ c) : ¬ ∀ i, i < h.n → hts h w (turn h w c) i ≤ hts h w c i := fun hle => by
  have same : ∀ i, i < h.n → hts h w c i = hts h w (turn h w c) i := fun i hi => Rat.le_antisymm (turn_up ok ow hc i hi) (hle i hi)
  refine hn ?_
  have hl : (turn h w c).length = c.length := by rw [(turn_cho (w := w) hc).len, hc.len]
  apply List.ext_getElem hl
  intro i h1 h2
  have hi : i < h.n := by
    rw [← hc.len]
    exact h2
  have e : (turn h w c).getD i 0 = c.getD i 0 := by
    rcases turn_gap ok ow hc hi with ⟨e, _⟩ | e
    · exact e
    · have z := gap_own ok ow (turn_cho (w := w) hc) hi
      rw [← gap_congr (w := w) ok hi ((turn_cho (w := w) hc).lt i hi) same] at z
      rw [z] at e
      exact absurd e (by decide +kernel)
  rw [List.getD_eq_getElem?_getD, List.getD_eq_getElem?_getD, List.getElem?_eq_getElem h1, List.getElem?_eq_getElem h2] at e
  exact e
theorem best_top (ok : HsOk h) (ow' : WOk h w) (hc : ChoOk h c) (hf : turn h w c = c) (hc' : ChoOk h c') {i : Nat} (hi : i < h.n) : hts h w c' i ≤ hts h w c i := by
  have ow := ow'.len
  refine cmp_ge ok ow hc' (fun i hi => ?_) i hi
  have hl := hc.lt i hi
  have ge0 : 0 ≤ (gapRow h w (hts h w c) i).getD (leastIx (gapRow h w (hts h w c) i)) 0 := by
    rcases turn_gap ok ow hc hi with ⟨_, e⟩ | e
    · exact e
    · rw [hf, gap_own ok ow hc hi] at e
      exact absurd e (by decide +kernel)
  have := least_is (gapRow h w (hts h w c) i) (j := c'.getD i 0) (by rw [gapRow_len]; exact hc'.lt i hi)
  rw [gapRow_at h w _ (hc'.lt i hi)] at this
  exact Rat.le_trans ge0 this

/-! ### the turns end -/
def allL : Nat → List (List Nat)
  | 0 => [[]]
  | n + 1 => (allL n).flatMap fun l => (List.range 4).map fun a => a :: l
theorem allL_mem : ∀ (n : Nat) (l : List Nat), l.length = n → (∀ x ∈ l, x < 4) → l ∈ allL n
  | 0, l, h, _ => by
    have := List.eq_nil_of_length_eq_zero h
    subst this
    exact List.mem_singleton.mpr rfl
  | n + 1, [], h, _ => by cases h
  | n + 1, a :: l, h, hx => List.mem_flatMap.mpr ⟨l, allL_mem n l (Nat.succ.inj h) fun x hl => hx x (List.mem_cons_of_mem _ hl), List.mem_map.mpr ⟨a, List.mem_range.mpr (hx a List.mem_cons_self), rfl⟩⟩
theorem cho_allL (ok : HsOk h) (hc : ChoOk h c) : c ∈ allL h.n := by
  refine allL_mem h.n c hc.len fun x hx => ?_
  obtain ⟨i, hi, e⟩ := List.mem_iff_getElem.mp hx
  have hi' : i < h.n := by
    rw [← hc.len]
    exact hi
  have h1 := hc.lt i hi'
  have h2 := (ok.s1 _ (stand_mem hi')).2.1
  rw [List.getD_eq_getElem?_getD, List.getElem?_eq_getElem hi] at h1
  have e2 : (some c[i]).getD 0 = x := e
  rw [e2] at h1
  omega
theorem filter_less {α : Type} (p q : α → Bool) : ∀ l : List α, (∀ x ∈ l, p x = true → q x = true) → (∃ x ∈ l, q x = true ∧ p x = false) → (l.filter p).length < (l.filter q).length := by
  have le : ∀ l : List α, (∀ x ∈ l, p x = true → q x = true) → (l.filter p).length ≤ (l.filter q).length := by
    intro l
    induction l with
    | nil => intro _; exact Nat.le_refl _
    | cons a l ih =>
      intro h
      have ih := ih fun x hx => h x (List.mem_cons_of_mem _ hx)
      have ha := h a List.mem_cons_self
      rw [List.filter_cons, List.filter_cons]
      cases hp : p a with
      | false =>
        cases hq : q a with
        | false => simpa using ih
        | true => simp; omega
      | true =>
        rw [ha hp]
        simp
        omega
  intro l
  induction l with
  | nil => rintro _ ⟨x, hx, _⟩; cases hx
  | cons a l ih =>
    intro h hx
    obtain ⟨x, hx, hq, hp⟩ := hx
    have hsub : ∀ x ∈ l, p x = true → q x = true := fun x hx => h x (List.mem_cons_of_mem _ hx)
    have ha := h a List.mem_cons_self
    rw [List.filter_cons, List.filter_cons]
    rcases List.mem_cons.mp hx with e | e
    · subst e
      have := le l hsub
      rw [hp, hq]
      simp
      omega
    · have ih := ih hsub ⟨x, e, hq, hp⟩
      cases hpa : p a with
      | false =>
        cases hqa : q a with
        | false => simpa using ih
        | true => simp; omega
      | true =>
        rw [ha hpa]
        simp
        omega
noncomputable def above (h : Hs) (w : List Rat) (c b : List Nat) : Bool := @decide (∀ i, i < h.n → hts h w c i ≤ hts h w b i) (Classical.propDecidable _)
theorem above_iff {b : List Nat} : above h w c b = true ↔ ∀ i, i < h.n → hts h w c i ≤ hts h w b i := by
  unfold above
  exact @decide_eq_true_iff _ (Classical.propDecidable _)
theorem turn_fewer (ok : HsOk h) (ow : w.length = h.k) (hc : ChoOk h c) (hn : turn h w c ≠ c) : ((allL h.n).filter (above h w (turn h w c))).length < ((allL h.n).filter (above h w c)).length := by
  refine filter_less _ _ _ (fun b _ hb => above_iff.mpr fun i hi => ?_) ⟨c, cho_allL ok hc, above_iff.mpr fun i _ => Rat.le_refl, ?_⟩
  · exact Rat.le_trans (turn_up ok ow hc i hi) (above_iff.mp hb i hi)
  · cases z : above h w (turn h w c) c with
    | false => rfl
    | true => exact absurd (above_iff.mp z) (turn_new ok ow hc hn)
theorem itrq_cho (ok : HsOk h) : ∀ m, ChoOk h (itr h w m)
  | 0 => ⟨List.length_replicate, fun i hi => by
    have := (ok.s1 _ (stand_mem hi)).1
    have e : (itr h w 0).getD i 0 = 0 := by
      show (List.replicate h.n 0).getD i 0 = 0
      rw [List.getD_eq_getElem?_getD, List.getElem?_replicate]
      split <;> rfl
    rw [e]
    omega⟩
  | m + 1 => turn_cho (itrq_cho ok m)
theorem itr_fix (ok : HsOk h) (ow' : WOk h w) : ∃ m, turn h w (itr h w m) = itr h w m := by
  have ow := ow'.len
  refine Classical.byContradiction fun hno => ?_
  have hne : ∀ m, turn h w (itr h w m) ≠ itr h w m := fun m z => hno ⟨m, z⟩
  have fall : ∀ m, ((allL h.n).filter (above h w (itr h w m))).length + m ≤ ((allL h.n).filter (above h w (itr h w 0))).length := by
    intro m
    induction m with
    | zero => exact Nat.le_refl _
    | succ m ih =>
      have := turn_fewer ok ow (itrq_cho (w := w) ok m) (hne m)
      show ((allL h.n).filter (above h w (turn h w (itr h w m)))).length + (m + 1) ≤ _
      omega
  have := fall (((allL h.n).filter (above h w (itr h w 0))).length + 1)
  omega
end
end Dh

set_option maxHeartbeats 400000
/-! The plain law: the house with one pay. -/
namespace Dh
open PySem PySem.Spec PyProof.Rows L2 Ab
section
variable {h : Hs} {w : List Rat} {c : List Nat}
theorem drq_n (h : Hs) (w : List Rat) : (dress h w).n = h.n := by
  unfold dress Hs.n
  rw [List.length_map]
theorem drq_stand (h : Hs) (w : List Rat) {i : Nat} (hi : i < h.n) : stand (dress h w) i = (stand h i).map fun d => ⟨d.ch, [dotR w d.ga]⟩ := by
  have hi' : i < h.st.length := hi
  unfold stand dress
  rw [List.getD_eq_getElem?_getD, List.getD_eq_getElem?_getD, List.getElem?_map, List.getElem?_eq_getElem hi']
  rfl
theorem drq_deed (h : Hs) (w : List Rat) {i a : Nat} (hi : i < h.n) (ha : a < (stand h i).length) : deed (dress h w) i a = ⟨(deed h i a).ch, [dotR w (deed h i a).ga]⟩ := by
  unfold deed
  rw [drq_stand h w hi, List.getD_eq_getElem?_getD, List.getD_eq_getElem?_getD, List.getElem?_map, List.getElem?_eq_getElem ha]
  rfl
theorem drq_cho (hc : ChoOk h c) : ChoOk (dress h w) c := ⟨by rw [drq_n]; exact hc.len, fun i hi => by
  rw [drq_n] at hi
  rw [drq_stand h w hi, List.length_map]
  exact hc.lt i hi⟩
theorem dress_ok (ok : HsOk h) (ow : WOk h w) : HsOk (dress h w) ∧ WOk (dress h w) [1] := by
  have s1 : Sz 1 1 (1 : Rat) := ⟨by decide +kernel, by decide +kernel⟩
  have s0 : Sz 1 1 (0 : Rat) := ⟨by decide +kernel, by decide +kernel⟩
  refine ⟨⟨by rw [drq_n]; exact ok.n1, by rw [drq_n]; exact ok.n4, Nat.le_refl _, by show 1 ≤ 4; decide, fun s hs => ?_, ok.h0, ok.h1, ok.hd⟩, ⟨rfl, fun x hx => ?_, fun s hs d hd => ?_⟩⟩
  · obtain ⟨s', hs', rfl⟩ := List.mem_map.mp hs
    obtain ⟨a1, a2, a3⟩ := ok.s1 s' hs'
    refine ⟨by rw [List.length_map]; exact a1, by rw [List.length_map]; exact a2, fun d hd => ?_⟩
    obtain ⟨d', hd', rfl⟩ := List.mem_map.mp hd
    refine ⟨?_, rfl, fun g hg => ?_⟩
    · rw [drq_n]
      exact (a3 d' hd').ch
    · rw [List.mem_singleton.mp hg]
      exact (ow.dot s' hs' d' hd').2
  · rw [List.mem_singleton.mp hx]
    exact s1.mono (by decide) (by decide)
  · obtain ⟨s', hs', rfl⟩ := List.mem_map.mp hs
    obtain ⟨d', hd', rfl⟩ := List.mem_map.mp hd
    have z := (ow.dot s' hs' d' hd').2
    refine ⟨DotOk_of (a := 1) (b := 80) (fun q hq => ?_) (fun q hq => ?_) (by decide) (by decide), ?_⟩
    · rw [List.mem_singleton.mp hq]
      exact s1
    · rw [List.mem_singleton.mp hq]
      exact z.mono (by decide) (by decide)
    · have e : dotR [1] [dotR w d'.ga] = dotR w d'.ga := by
        show sumR [1 * dotR w d'.ga] = _
        rw [sumR_cons, sumR_nil]
        grind
      show Sz 80 40 (dotR [1] [dotR w d'.ga])
      rw [e]
      exact z
theorem hts_dress (ok : HsOk h) (ow : WOk h w) (hc : ChoOk h c) {i : Nat} (hi : i < h.n) : elm (tabl (dress h w) c) h.n i h.n = hts h w c i := by
  obtain ⟨ok', _⟩ := dress_ok ok ow
  have hc' := drq_cho (w := w) hc
  have m := tab_mm ok hc
  have m' := tab_mm ok' hc'
  rw [drq_n] at m'
  have same : ∀ i, i < h.n → ∀ j, j < h.n → tabl (dress h w) c i j = tabl h c i j := fun i hi j hj => by
    rw [tab_in h c hj, tab_in (dress h w) c (by rw [drq_n]; exact hj)]
    show _ - h.sh * cv (deed (dress h w) i (c.getD i 0)).ch j = _
    rw [drq_deed h w hi (hc.lt i hi)]
    rfl
  have rhs : ∀ i, i < h.n → tabl (dress h w) c i h.n = dotR w (deed h i (c.getD i 0)).ga := fun i hi => by
    have := tab_out (dress h w) c i 0
    rw [drq_n] at this
    rw [Nat.add_zero] at this
    rw [this]
    show (deed (dress h w) i (c.getD i 0)).ga.getD 0 0 = _
    rw [drq_deed h w hi (hc.lt i hi)]
    rfl
  have sol := elm_sol m' (c := h.n)
  have eq1 : ∀ i, i < h.n → sg h.n (fun j => tabl h c i j * elm (tabl (dress h w) c) h.n j h.n) = dotR w (deed h i (c.getD i 0)).ga := fun i hi => by
    rw [← rhs i hi, ← sol i hi]
    exact sg_congr fun j hj => by rw [same i hi j hj]
  have a1 := mm_mono m (d := fun j => elm (tabl (dress h w) c) h.n j h.n - hts h w c j) (fun i hi => by
    rw [sg_congr (g := fun j => tabl h c i j * elm (tabl (dress h w) c) h.n j h.n - tabl h c i j * hts h w c j) fun j _ => by grind, sg_sub, eq1 i hi, hts_eq ok ow.len hc hi]
    grind) i hi
  have a2 := mm_mono m (d := fun j => hts h w c j - elm (tabl (dress h w) c) h.n j h.n) (fun i hi => by
    rw [sg_congr (g := fun j => tabl h c i j * hts h w c j - tabl h c i j * elm (tabl (dress h w) c) h.n j h.n) fun j _ => by grind, sg_sub, eq1 i hi, hts_eq ok ow.len hc hi]
    grind) i hi
  have b1 : 0 ≤ elm (tabl (dress h w) c) h.n i h.n - hts h w c i := a1
  have b2 : 0 ≤ hts h w c i - elm (tabl (dress h w) c) h.n i h.n := a2
  grind
theorem hts_sz (ok : HsOk h) (ow : WOk h w) (hc : ChoOk h c) {i : Nat} (hi : i < h.n) : Sz 1000 1000 (hts h w c i) := by
  obtain ⟨ok', _⟩ := dress_ok ok ow
  have e := elim_ok ok' (drq_cho (w := w) hc)
  rw [drq_n] at e
  rw [← hts_dress ok ow hc hi]
  exact e.sz h.n (Nat.le_refl _) i hi h.n (by show h.n < h.n + 1; omega)
end
end Dh

set_option maxHeartbeats 4000000
/-! Worths. -/
namespace Dh
open PySem PySem.Spec PyProof.Rows L2 Ab

def eStl (h : Hs) (c : List Nat) : PyData := .tuple ((List.range h.n).map fun i => eRow (plainOdds (c.getD i 0 : Nat) (stand h i).length))
theorem cho_row {c : List Nat} {n : Nat} (h : c.length = n) : c = (List.range n).map fun i => c.getD i 0 := by
  subst h
  apply List.ext_getElem?
  intro i
  by_cases hi : i < c.length
  · rw [List.getElem?_map, List.getElem?_range hi, List.getElem?_eq_getElem hi]
    simp [List.getD_eq_getElem?_getD, List.getElem?_eq_getElem hi]
  · rw [List.getElem?_eq_none (by omega), List.getElem?_eq_none (by rw [List.length_map, List.length_range]; omega)]
theorem st_row (h : Hs) : h.st = (List.range h.n).map fun i => stand h i := by
  apply List.ext_getElem?
  intro i
  by_cases hi : i < h.n
  · rw [stand_at hi, List.getElem?_map, List.getElem?_range hi]
    rfl
  · have : ¬ i < h.st.length := hi
    rw [List.getElem?_eq_none (by omega), List.getElem?_eq_none (by rw [List.length_map, List.length_range]; omega)]
theorem dd_row {h : Hs} {i : Nat} : stand h i = (List.range (stand h i).length).map fun a => deed h i a := by
  apply List.ext_getElem?
  intro a
  by_cases ha : a < (stand h i).length
  · rw [deed_at ha, List.getElem?_map, List.getElem?_range ha]
    rfl
  · rw [List.getElem?_eq_none (by omega), List.getElem?_eq_none (by rw [List.length_map, List.length_range]; omega)]
theorem row_of {l : List Rat} {n : Nat} (h : l.length = n) : l = row n fun i => l.getD i 0 := by
  subst h
  unfold row
  apply List.ext_getElem?
  intro i
  by_cases hi : i < l.length
  · rw [List.getElem?_map, List.getElem?_range hi, List.getElem?_eq_getElem hi]
    simp [List.getD_eq_getElem?_getD, List.getElem?_eq_getElem hi]
  · rw [List.getElem?_eq_none (by omega), List.getElem?_eq_none (by rw [List.length_map, List.length_range]; omega)]
theorem lk_ch (ch : List (Nat × Rat)) (j : Nat) : lkD (ch.map fun p => ((p.1 : Int), eR p.2)) (j : Int) (eR 0) = eR (cv ch j) := by
  unfold lkD cv
  rw [List.find?_map]
  have : ((fun p : Int × PyData => decide (p.1 = (j : Int))) ∘ fun p : Nat × Rat => ((p.1 : Int), eR p.2)) = fun p : Nat × Rat => decide (p.1 = j) := by
    funext p
    show decide ((p.1 : Int) = (j : Int)) = _
    exact decide_eq_decide.mpr ⟨fun h => by omega, fun h => by rw [h]⟩
  rw [this]
  cases ch.find? (fun p => decide (p.1 = j)) with
  | none => rfl
  | some p => rfl
theorem zip_rng {α β : Type} (n : Nat) (f : Nat → α) (g : Nat → β) : ((List.range n).map f).zip ((List.range n).map g) = (List.range n).map fun j => (f j, g j) := by
  rw [List.zip_map, zip_same, List.map_map]
  rfl
theorem addR_row (n : Nat) (f g : Nat → Rat) : addR (row n f) (row n g) = row n fun j => f j + g j := by
  unfold addR
  rw [zip_row, List.map_map]
  rfl
theorem scaR_row (n : Nat) (f : Nat → Rat) (q : Rat) : scaR (row n f) q = row n fun j => f j * q := by
  unfold scaR row
  rw [List.map_map]
  rfl
theorem rep_row (n : Nat) : List.replicate n (0 : Rat) = row n fun _ => 0 := by
  unfold row
  rw [List.map_const', List.length_range]
/-- the mean of rows with one chance 1 and all others 0 -/
theorem mean_hot {n m a : Nat} {f : Nat → Nat → Rat} (ha : a < m) (hm : m ≤ 1000) (n1 : 1 ≤ n) (hn : n ≤ 1000) (hf : ∀ i, i < m → ∀ j, j < n → S0 (f i j)) :
    MeanOk ((List.range m).map fun i => ((if i = a then 1 else 0 : Rat), row n (f i))) n ∧ meanR ((List.range m).map fun i => ((if i = a then 1 else 0 : Rat), row n (f i))) n = row n (f a) := by
  have hz : S0 (0 : Rat) := ⟨by decide +kernel, by decide +kernel⟩
  have key : ∀ i, i ≤ m → meanR (((List.range m).map fun i => ((if i = a then 1 else 0 : Rat), row n (f i))).take i) n = row n fun j => if a < i then f a j else 0 := by
    intro i
    induction i with
    | zero =>
      intro _
      show List.replicate n 0 = _
      rw [rep_row]
      exact row_congr fun j _ => by rw [if_neg (by omega)]
    | succ i ih =>
      intro hi
      rw [meanR_take (by rw [List.length_map, List.length_range]; omega), ih (by omega), List.getElem_map, List.getElem_range]
      show addR _ (scaR (row n (f i)) (if i = a then 1 else 0)) = _
      rw [scaR_row, addR_row]
      refine row_congr fun j _ => ?_
      by_cases e : i = a
      · subst e
        rw [if_neg (by omega), if_pos rfl, if_pos (by omega)]
        grind
      · rw [if_neg e]
        by_cases e2 : a < i
        · rw [if_pos e2, if_pos (by omega)]
          grind
        · rw [if_neg e2, if_neg (by omega)]
          grind
  refine ⟨⟨by rw [List.length_map, List.length_range]; exact hm, n1, hn, fun p hp => ?_, fun i hi => ?_⟩, ?_⟩
  · obtain ⟨i, hi, rfl⟩ := List.mem_map.mp hp
    have hi := List.mem_range.mp hi
    refine ⟨s01, row0_of hn fun j hj => hf i hi j hj, ?_⟩
    show Row0 (scaR (row n (f i)) _)
    rw [scaR_row]
    refine row0_of hn fun j hj => ?_
    have := hf i hi j hj
    split
    · rw [Rat.mul_one]
      exact this
    · rw [Rat.mul_zero]
      exact hz
  · rw [List.length_map, List.length_range] at hi
    rw [key i hi]
    refine row0_of hn fun j hj => ?_
    have := hf a ha j hj
    split
    · exact this
    · exact hz
  · have := key m (Nat.le_refl _)
    rw [List.take_of_length_le (by rw [List.length_map, List.length_range]; omega)] at this
    rw [this]
    exact row_congr fun j _ => by rw [if_pos ha]
theorem odds_rng (a m : Nat) : plainOdds (a : Int) m = (List.range m).map fun i => (if i = a then 1 else 0 : Rat) := by
  unfold plainOdds
  apply List.map_congr_left
  intro i _
  by_cases e : i = a
  · rw [if_pos e, if_pos (by omega)]
  · rw [if_neg e, if_neg (by omega)]

section
variable {P : Program} {w : World} {K : PySem.W.Frag} {mg : Str → Option Value} {base : Heap}
def R_still (ds : List PyData) (PP : PyData → Prop) : Prop := ∃ (h : Hs) (c : List Nat), ds = [eHs h, eCho c] ∧ HsOk h ∧ c.length = h.n ∧ PP = Is (eStl h c)
theorem ok_still_by {f : Addr} {fd : FuncData} (B : Bt K mg) (F : Fun K "still_by" "still_by" s_still_by f fd) (Gp : KP P w K mg base "plain_odds" 1 ["deed", "many"] R_plain_odds) : FnOk P w K mg base CX0 2 f fd ["house", "choice"] (spP K R_still) := by
  refine fn_pure (N := n_still_by) F c_still_by (fun ds PP h => ?_) (fun cdv A outer s H E hr ds PP h => ?_)
  · obtain ⟨h, c, rfl, _⟩ := h
    rfl
  · obtain ⟨h, c, rfl, ok, hc, rfl⟩ := h
    have n4 := ok.n4
    refine x_retIs (ev_tupOf rfl B.tuple (lc2 (xs := (List.range h.n).map fun i => (i, i)) (e1 := fun i => .int ((c.getD i 0 : Nat) : Int)) (e2 := fun i => eSt (stand h i)) (g := fun p => eRow (plainOdds (c.getD p.1 0 : Nat) (stand h p.2).length)) 2 3 c_still_by.nd (IterL.c (it_to (it_zipE (xs := c) (ys := h.st) (e1 := fun (a : Nat) => .int (a : Int)) (e3 := eSt) rfl B.zip (nm 1) (ev_ixT (nm 0) ev_int rfl) (.inr rfl) (.inr rfl)) ?_)) (blkOk_by (N := n_still_by) (sc := defScope s_still_by) (by decide +kernel)) (by rw [List.length_map, List.length_range]; omega) fun p hp s0 H0 C cl fp => ?_)) ?_
    · conv => lhs; rw [cho_row hc, st_row h]
      rw [zip_rng, List.map_map, List.map_map]
      rfl
    · obtain ⟨i, hi, rfl⟩ := List.mem_map.mp hp
      have hi := List.mem_range.mp hi
      have := (ok.s1 _ (stand_mem hi)).2.1
      exact ev_call Gp hr rfl (ea_cons (nm 2) (ea_cons (Eval.to (ev_lenT rfl B.len (nm 3)) (by rw [List.length_map])) ea_nil)) ⟨_, _, rfl, Nat.le_trans this (by decide), rfl⟩
    · unfold eStl
      rw [List.map_map]
      rfl
def R_chance_row (ds : List PyData) (PP : PyData → Prop) : Prop := ∃ (n : Nat) (ch : List (Nat × Rat)), ds = [eChs ch, .int (n : Int)] ∧ ChOk n ch ∧ n ≤ 100 ∧ PP = Is (eRow (row n (cv ch)))
theorem ok_chance_row {f : Addr} {fd : FuncData} (B : Bt K mg) (F : Fun K "chance_row" "chance_row" s_chance_row f fd) : FnOk P w K mg base CX0 1 f fd ["chances", "stands"] (spP K R_chance_row) := by
  refine fn_pure (N := n_chance_row) F c_chance_row (fun ds PP h => ?_) (fun cdv A outer s H E hr ds PP h => ?_)
  · obtain ⟨n, ch, rfl, _⟩ := h
    rfl
  · obtain ⟨n, ch, rfl, ok, hn, rfl⟩ := h
    have hl := ok.len
    have hu := hr.units
    refine x_dc (xs := ch) (enc := eCh) (kf := fun p => (p.1 : Int)) (g := fun p => eR p.2) (i := 2) (own := [("stand", 3), ("chance", 4)]) rfl c_chance_row.nd rfl (.inr rfl) (.inl rfl) (IterL.c (it_tup (nm 0))) (blkOk_by (N := n_chance_row) (sc := defScope s_chance_row) (by decide +kernel)) (hw2 rfl rfl) (by omega) ?_ (fun p hp => ⟨_, fun s0 H0 C cl fp => tg_pair (i := 3) (j := 4) rfl c_chance_row.nd rfl (.inl rfl) (.inr rfl) rfl (.inl rfl) (.inr rfl), fun s0 H0 C cl fp => nm 3, fun s0 H0 C cl fp => nm 4⟩) ?_
    · have := ok.asc
      have h2 := this.imp (fun {a b} (h : a < b) => Nat.ne_of_lt h)
      have : (ch.map fun p => (p.1 : Int)) = (ch.map (·.1)).map fun (a : Nat) => (a : Int) := by rw [List.map_map]; rfl
      rw [this]
      exact List.Pairwise.map _ (fun a b h => by omega) h2
    · refine x_retIs (ev_tupOf rfl B.tuple (lc1 (xs := List.range n) (enc := fun (i : Nat) => .int (i : Int)) (g := fun (i : Nat) => eR (cv ch i)) 3 c_chance_row.nd (IterL.c (it_rangeE rfl B.range (nm 1) (by omega))) (blkOk_by (N := n_chance_row) (sc := defScope s_chance_row) (by decide +kernel)) (by rw [List.length_range]; omega) fun i hi s0 H0 C cl fp => ?_)) ?_
      · exact Eval.to (ev_dget (i := 2) (Nat.lt_of_le_of_lt (Nat.add_le_add_left (by decide : 1 ≤ 64) _) hr.units) rfl rfl (by first | exact Or.inl rfl | exact Or.inr (Or.inl rfl) | exact Or.inr (Or.inr rfl)) (nm 3) (ev_zero B rfl)) (lk_ch ch i)
      · unfold eRow
        rw [map_row]
        rfl
end
end Dh

set_option maxHeartbeats 4000000
/-! Worths of a choice, gaps. -/
namespace Dh
open PySem PySem.Spec PyProof.Rows L2 Ab

theorem at_st {h : Hs} {i : Nat} (hi : i < h.n) : atI (h.st.map eSt) (i : Int) = some (eSt (stand h i)) := atI_nat (by rw [List.getElem?_map, stand_at hi]; rfl)
theorem at_dd {h : Hs} {i a : Nat} (ha : a < (stand h i).length) : atI ((stand h i).map eDd) (a : Int) = some (eDd (deed h i a)) := atI_nat (by rw [List.getElem?_map, deed_at ha]; rfl)
theorem gd_sz {n k : Nat} {d : Dd} (ok : DdOk n k d) (p : Nat) (hp : p < k) : Sz 80 40 (d.ga.getD p 0) := by
  have hl := ok.gl
  rw [List.getD_eq_getElem?_getD, List.getElem?_eq_getElem (by omega)]
  exact ok.gs _ (List.getElem_mem _)
theorem s0_of {a b : Nat} {q : Rat} (h : Sz a b q) (ha : a ≤ 4500 := by decide) (hb : b ≤ 4500 := by decide) : S0 q := h.mono ha hb

section
variable {P : Program} {w : World} {K : PySem.W.Frag} {mg : Str → Option Value} {base : Heap}
def R_odds_mean (ds : List PyData) (PP : PyData → Prop) : Prop := ∃ (h : Hs) (i a : Nat), ds = [eHs h, .int (i : Int), eRow (plainOdds (a : Int) (stand h i).length)] ∧ HsOk h ∧ i < h.n ∧ a < (stand h i).length ∧ PP = Is (.tuple [eRow (row h.n (cv (deed h i a).ch)), eRow (row h.k fun p => (deed h i a).ga.getD p 0)])
theorem ok_odds_mean {f : Addr} {fd : FuncData} (B : Bt K mg) (F : Fun K "odds_mean" "odds_mean" s_odds_mean f fd) (Gm : KP P w K mg base "mean" 4 ["pairs", "many"] R_mean) (Gc : KP P w K mg base "chance_row" 1 ["chances", "stands"] R_chance_row) : FnOk P w K mg base CX0 5 f fd ["house", "stand", "odds"] (spP K R_odds_mean) := by
  refine fn_pure (N := n_odds_mean) F c_odds_mean (fun ds PP h => ?_) (fun cdv A outer s H E hr ds PP h => ?_)
  · obtain ⟨h, i, a, rfl, _⟩ := h
    rfl
  · obtain ⟨h, i, a, rfl, ok, hi, ha, rfl⟩ := h
    have n1 := ok.n1
    have n4 := ok.n4
    have k1 := ok.k1
    have k4 := ok.k4
    obtain ⟨m1, m4, hd⟩ := ok.s1 _ (stand_mem hi)
    have hdd : ∀ b, b < (stand h i).length → DdOk h.n h.k (deed h i b) := fun b hb => hd _ (deed_mem hb)
    refine x_setIs (i := 3) (d := eSt (stand h i)) c_odds_mean.nd rfl (.inl rfl) (.inl rfl) (ev_ixT (ev_ixT (nm 0) ev_int rfl) (nm 1) (at_st hi)) ?_
    refine x_lc2 (xs := (List.range (stand h i).length).map fun b => (b, b)) (e1 := fun b => eR (if b = a then 1 else 0)) (e2 := fun b => eDd (deed h i b)) (g := fun p => .tuple [eR (if p.1 = a then 1 else 0), eRow (row h.n (cv (deed h i p.2).ch))]) 4 6 7 c_odds_mean.nd (IterL.c (it_to (it_zipE (xs := plainOdds (a : Int) (stand h i).length) (ys := stand h i) (e1 := eR) (e3 := eDd) rfl B.zip (nm 2) (nm 3) (.inr rfl) (.inr rfl)) ?_)) (blkOk_by (N := n_odds_mean) (sc := defScope s_odds_mean) (by decide +kernel)) (by rw [List.length_map, List.length_range]; omega) (fun p hp s0 H0 C cl fp => ?_) ?_
    · rw [odds_rng]
      conv => lhs; rw [dd_row (h := h) (i := i)]
      rw [List.length_map, List.length_range, zip_rng, List.map_map, List.map_map]
      rfl
    · obtain ⟨b, hb, rfl⟩ := List.mem_map.mp hp
      have hb := List.mem_range.mp hb
      exact ev_tup (ea_cons (nm 6) (ea_cons (ev_call (Gc.mono (by decide : 1 ≤ 4)) hr rfl (ea_cons (ev_ixT (nm 7) ev_int rfl) (ea_cons (Eval.to (d' := .int (h.n : Int)) (ev_lenT rfl B.len (ev_ixT (nm 0) ev_int rfl)) (by rw [List.length_map]; rfl)) ea_nil)) ⟨h.n, _, rfl, (hdd b hb).ch, by omega, rfl⟩) ea_nil))
    refine x_frz 4 rfl ?_
    refine x_lc2 (xs := (List.range (stand h i).length).map fun b => (b, b)) (e1 := fun b => eR (if b = a then 1 else 0)) (e2 := fun b => eDd (deed h i b)) (g := fun p => .tuple [eR (if p.1 = a then 1 else 0), eRow (row h.k fun q => (deed h i p.2).ga.getD q 0)]) 5 6 7 c_odds_mean.nd (IterL.c (it_to (it_zipE (xs := plainOdds (a : Int) (stand h i).length) (ys := stand h i) (e1 := eR) (e3 := eDd) rfl B.zip (nm 2) (nm 3) (.inr rfl) (.inr rfl)) ?_)) (blkOk_by (N := n_odds_mean) (sc := defScope s_odds_mean) (by decide +kernel)) (by rw [List.length_map, List.length_range]; omega) (fun p hp s0 H0 C cl fp => ?_) ?_
    · rw [odds_rng]
      conv => lhs; rw [dd_row (h := h) (i := i)]
      rw [List.length_map, List.length_range, zip_rng, List.map_map, List.map_map]
      rfl
    · obtain ⟨b, hb, rfl⟩ := List.mem_map.mp hp
      have hb := List.mem_range.mp hb
      refine Eval.to (ev_tup (ea_cons (nm 6) (ea_cons (ev_ixT (nm 7) ev_int rfl) ea_nil))) ?_
      show PyData.tuple [_, eRow _] = PyData.tuple [_, eRow _]
      rw [← row_of (hdd b hb).gl]
    refine x_frz 5 rfl ?_
    obtain ⟨o1, e1⟩ := mean_hot (n := h.n) (f := fun b => cv (deed h i b).ch) ha (by omega) n1 (by omega) fun b hb j hj => s0_of (cv_sz (hdd b hb).ch j)
    obtain ⟨o2, e2⟩ := mean_hot (n := h.k) (f := fun b q => (deed h i b).ga.getD q 0) ha (by omega) k1 (by omega) fun b hb j hj => s0_of (gd_sz (hdd b hb) j hj)
    refine x_retIs (ev_tup (ea_cons (ev_call Gm hr rfl (ea_cons (nm 4) (ea_cons (Eval.to (d' := .int (h.n : Int)) (ev_lenT rfl B.len (ev_ixT (nm 0) ev_int rfl)) (by rw [List.length_map]; rfl)) ea_nil)) ⟨_, h.n, ?_, o1, rfl⟩) (ea_cons (ev_call Gm hr rfl (ea_cons (nm 5) (ea_cons (ev_ixT (nm 0) ev_int rfl) ea_nil)) ⟨_, h.k, ?_, o2, rfl⟩) ea_nil))) ?_
    · rw [List.map_map, List.map_map]
      rfl
    · rw [List.map_map, List.map_map]
      rfl
    · rw [e1, e2]
      rfl
def R_worths_by (ds : List PyData) (PP : PyData → Prop) : Prop := ∃ (h : Hs) (c : List Nat), ds = [eHs h, eStl h c] ∧ HsOk h ∧ ChoOk h c ∧ PP = Is (.tuple ((List.range h.n).map fun i => eRow (row h.k fun p => elm (tabl h c) h.n i (h.n + p))))
theorem ok_worths_by {f : Addr} {fd : FuncData} (B : Bt K mg) (F : Fun K "worths_by" "worths_by" s_worths_by f fd) (Go : KP P w K mg base "odds_mean" 5 ["house", "stand", "odds"] R_odds_mean) (Gs : KP P w K mg base "solved_worths" 5 ["share", "moves", "gains"] R_solved) : FnOk P w K mg base CX0 6 f fd ["house", "still"] (spP K R_worths_by) := by
  refine fn_pure (N := n_worths_by) F c_worths_by (fun ds PP h => ?_) (fun cdv A outer s H E hr ds PP h => ?_)
  · obtain ⟨h, c, rfl, _⟩ := h
    rfl
  · obtain ⟨h, c, rfl, ok, hc, rfl⟩ := h
    have n4 := ok.n4
    refine x_lc2 (xs := (List.range h.n).map fun i => (i, i)) (e1 := fun (i : Nat) => .int (i : Int)) (e2 := fun i => eRow (plainOdds (c.getD i 0 : Nat) (stand h i).length)) (g := fun p => .tuple [eRow (row h.n (mvs h c p.1)), eRow (row h.k (gvs h c p.2))]) 2 3 4 c_worths_by.nd (IterL.c (it_to (it_enumE (xs := List.range h.n) (e1 := fun i => eRow (plainOdds (c.getD i 0 : Nat) (stand h i).length)) rfl B.enumerate (nm 1) (.inr rfl)) ?_)) (blkOk_by (N := n_worths_by) (sc := defScope s_worths_by) (by decide +kernel)) (by rw [List.length_map, List.length_range]; omega) (fun p hp s0 H0 C cl fp => ?_) ?_
    · have := zipIdx_rng h.n (fun i => i)
      rw [List.map_id'] at this
      rw [this, List.map_map, List.map_map]
      rfl
    · obtain ⟨i, hi, rfl⟩ := List.mem_map.mp hp
      have hi := List.mem_range.mp hi
      exact ev_call Go hr rfl (ea_cons (nm 0) (ea_cons (nm 3) (ea_cons (nm 4) ea_nil))) ⟨h, i, c.getD i 0, rfl, ok, hi, hc.lt i hi, rfl⟩
    refine x_retIs (ev_call Gs hr rfl (ea_cons (ev_ixT (nm 0) ev_int rfl) (ea_cons (EvalN.is (lc2 (xs := (List.range h.n).map fun i => (i, i)) (e1 := fun i => eRow (row h.n (mvs h c i))) (e2 := fun i => eRow (row h.k (gvs h c i))) (g := fun p => eRow (row h.n (mvs h c p.1))) 5 6 c_worths_by.nd ?_ (blkOk_by (N := n_worths_by) (sc := defScope s_worths_by) (by decide +kernel)) (by rw [List.length_map, List.length_range]; omega) fun p hp s0 H0 C cl fp => nm 5)) (ea_cons (EvalN.is (lc2 (xs := (List.range h.n).map fun i => (i, i)) (e1 := fun i => eRow (row h.n (mvs h c i))) (e2 := fun i => eRow (row h.k (gvs h c i))) (g := fun p => eRow (row h.k (gvs h c p.1))) 6 7 c_worths_by.nd ?_ (blkOk_by (N := n_worths_by) (sc := defScope s_worths_by) (by decide +kernel)) (by rw [List.length_map, List.length_range]; omega) fun p hp s0 H0 C cl fp => ?_)) ea_nil))) ⟨h.n, h.k, h.sh, mvs h c, gvs h c, ?_, elim_ok ok hc, s0_of (sh_sz ok), fun i hi j hj => ?_, rfl⟩) rfl
    · exact it_own (i := 2) rfl rfl (.inl rfl)
    · exact it_own (i := 2) rfl rfl (.inl rfl)
    · obtain ⟨i, hi, rfl⟩ := List.mem_map.mp hp
      exact nm 7
    · rw [List.map_map, List.map_map]
      rfl
    · have z := cv_sz (ok.deed hi (hc.lt i hi)).ch j
      exact ⟨s0_of z, s0_of ((sh_sz ok).mul z)⟩
end
end Dh

set_option maxHeartbeats 4000000
/-! A house with one pay; gaps. -/
namespace Dh
open PySem PySem.Spec PyProof.Rows L2 Ab
section
variable {X : Cx} {es : List Sl} {iter elt : Expr} {pos : Pos} {scope : Scope}
/-- [elt for x, y in iter], x of a deeper block too -/
theorem lc2c {β γ : Type} {xs : List (β × γ)} {e1 : β → PyData} {e2 : γ → PyData} {g : β × γ → PyData} (i k : Nat) {x y : Str} {px py pt : Pos} {kk : Nat} (hN : X.N.Nodup) (hi : IterC X (.Tuple [.Name x px, .Name y py] kk pt) iter es (IsL (xs.map fun p => .tuple [e1 p.1, e2 p.2]))) (ok : BlkOk X.N X.env.scope scope [(x, i), (y, k)]) (hl : xs.length ≤ 100000)
    (hb : ∀ p ∈ xs, ∀ s0 H0 C cl fp, Eval (Cb X scope s0 H0 C cl fp) elt ((es.set i (.val (e1 p.1))).set k (.val (e2 p.2))) (Is (g p))) (he : es[i]? = some .no := by rfl) (he2 : es[k]? = some .no := by rfl) (hc : X.calm = true := by rfl) (hx : X.N[i]? = some x := by rfl) (hy : X.N[k]? = some y := by rfl)
    (hlo : ∀ s0 H0 C cl fp, (Cb X scope s0 H0 C cl fp).env.scope.names.lookup x = some .cell := by intros; rfl) (hlf : ∀ s0 H0 C cl fp, (Cb X scope s0 H0 C cl fp).fn x = true := by intros; rfl) (hlo2 : ∀ s0 H0 C cl fp, (Cb X scope s0 H0 C cl fp).env.scope.names.lookup y = some .local := by intros; rfl)
    (hs1 : ∀ s0 H0 C cl fp, (assignEach [.Name x px, .Name y py] (Cb X scope s0 H0 C cl fp).env).map (·.2) = assign (.Name x px) (Cb X scope s0 H0 C cl fp).env :: (assignEach [.Name y py] (Cb X scope s0 H0 C cl fp).env).map (·.2) := by intros; rfl)
    (hs2 : ∀ s0 H0 C cl fp, (assignEach [.Name y py] (Cb X scope s0 H0 C cl fp).env).map (·.2) = assign (.Name y py) (Cb X scope s0 H0 C cl fp).env :: (assignEach [] (Cb X scope s0 H0 C cl fp).env).map (·.2) := by intros; rfl)
    (hn : ∀ s0 H0 C cl fp, (assignEach [.Name x px, .Name y py] (Cb X scope s0 H0 C cl fp).env).length = 2 := by intros; rfl) (hst : ∀ s0 H0 C cl fp, (assignEach [.Name x px, .Name y py] (Cb X scope s0 H0 C cl fp).env).findIdx? (·.1) = none := by intros; rfl)
    (hf : ∀ x, foldedSetIterable iter X.env x = pure x := by intro _; rfl) : EvalN X (.ListComp elt [⟨.Tuple [.Name x px, .Name y py] kk pt, iter, [], 0⟩] scope pos) es (IsL (xs.map g)) :=
  en_lc hc hN hi ok (hw2 he he2) hl (fun p hp => ⟨_, fun s0 H0 C cl fp => tg_pair (X := Cb X scope s0 H0 C cl fp) hc hN hx (.inr (hlo _ _ _ _ _)) (.inl (hlf _ _ _ _ _)) hy (.inl (hlo2 _ _ _ _ _)) (.inr (hlo2 _ _ _ _ _)) (hs1 _ _ _ _ _) (hs2 _ _ _ _ _) (hn _ _ _ _ _) (hst _ _ _ _ _), fun _ _ _ _ _ => es_nil, fun _ => hb p hp⟩) hf
end
section
variable {P : Program} {w : World} {K : PySem.W.Frag} {mg : Str → Option Value} {base : Heap}
def R_weighted_by (ds : List PyData) (PP : PyData → Prop) : Prop := ∃ (h : Hs) (wt : List Rat), ds = [eHs h, eRow wt] ∧ HsOk h ∧ WOk h wt ∧ PP = Is (eHs (dress h wt))
theorem ok_weighted_by {f : Addr} {fd : FuncData} (B : Bt K mg) (F : Fun K "weighted_by" "weighted_by" s_weighted_by f fd) (Gd : KP P w K mg base "dot" 4 ["one", "two"] R_dot) : FnOk P w K mg base CX0 5 f fd ["house", "weights"] (spP K R_weighted_by) := by
  refine fn_pure (N := n_weighted_by) F c_weighted_by (fun ds PP h => ?_) (fun cdv A outer s H E hr ds PP h => ?_)
  · obtain ⟨h, wt, rfl, _⟩ := h
    rfl
  · obtain ⟨h, wt, rfl, ok, ow, rfl⟩ := h
    have n4 : h.st.length ≤ 4 := ok.n4
    refine x_setIs (i := 2) (d := .tuple (h.st.map fun s => eSt (s.map fun d => ⟨d.ch, [dotR wt d.ga]⟩))) c_weighted_by.nd rfl (.inl rfl) (.inl rfl) (ev_tupOf rfl B.tuple (lc1 (xs := h.st) (enc := eSt) (g := fun s => eSt (s.map fun d => ⟨d.ch, [dotR wt d.ga]⟩)) 3 c_weighted_by.nd (IterL.c (it_tup (ev_ixT (nm 0) ev_int rfl))) (blkOk_by (N := n_weighted_by) (sc := defScope s_weighted_by) (by decide +kernel)) (by omega) fun sd hsd s0 H0 C cl fp => ?_)) ?_
    · have m4 := (ok.s1 sd hsd).2.1
      refine Eval.to (ev_tupOf rfl B.tuple (lc2 (xs := sd.map fun d => (d.ch, d.ga)) (e1 := eChs) (e2 := eRow) (g := fun p => .tuple [eChs p.1, .tuple [eR (dotR wt p.2)]]) 4 5 c_weighted_by.nd (IterL.c (it_to (it_tup (nm 3)) ?_)) (blkOk_by (N := n_weighted_by) (sc := _) rfl) (by rw [List.length_map]; omega) fun p hp s0 H0 C cl fp => ?_)) ?_
      · rw [List.map_map]
        rfl
      · obtain ⟨d, hd, rfl⟩ := List.mem_map.mp hp
        exact ev_tup (ea_cons (nm 4) (ea_cons (ev_tup (ea_cons (ev_call Gd hr rfl (ea_cons (nm 1) (ea_cons (nm 5) ea_nil)) ⟨_, _, rfl, (ow.dot sd hsd d hd).1, rfl⟩) ea_nil)) ea_nil))
      · unfold eSt
        rw [List.map_map, List.map_map]
        rfl
    · refine x_retIs (ev_tup (ea_cons (ev_ixT (nm 0) ev_int rfl) (ea_cons ev_int (ea_cons (nm 2) ea_nil)))) ?_
      show _ = _
      unfold eHs dress
      rw [List.map_map]
      rfl
def R_gap_by (ds : List PyData) (PP : PyData → Prop) : Prop := ∃ (h : Hs) (wt : List Rat) (v : Nat → Rat) (i a : Nat), ds = [eHs h, eRow wt, eRow (row h.n v), .int (i : Int), .int (a : Int)] ∧ HsOk h ∧ WOk h wt ∧ i < h.n ∧ a < (stand h i).length ∧ (∀ j, j < h.n → Sz 1000 1000 (v j)) ∧ PP = Is (eR (gap h wt v i a))
theorem ahead_ok {h : Hs} {i a : Nat} {v : Nat → Rat} (ok : HsOk h) (hi : i < h.n) (ha : a < (stand h i).length) (hv : ∀ j, j < h.n → Sz 1000 1000 (v j)) : SumOk ((deed h i a).ch.map fun p : Nat × Rat => p.2 * v p.1) ∧ Sz 4100 4100 (ahead (deed h i a).ch v) := by
  have hc := (ok.deed hi ha).ch
  have hz : ∀ x ∈ (deed h i a).ch.map fun p : Nat × Rat => p.2 * v p.1, Sz 1008 1008 x := fun x hx => by
    obtain ⟨p, hp, rfl⟩ := List.mem_map.mp hx
    exact ((ch_sz hc p hp).mul (hv _ (hc.key p hp))).mono (by decide) (by decide)
  have hl : ((deed h i a).ch.map fun p : Nat × Rat => p.2 * v p.1).length ≤ 4 := by
    rw [List.length_map]
    exact hc.len
  exact ⟨SumOk_of hz hl (by decide), (sum_sz hz hl).mono (by decide) (by decide)⟩
theorem ok_gap_by {f : Addr} {fd : FuncData} (B : Bt K mg) (F : Fun K "gap_by" "gap_by" s_gap_by f fd) (Gd : KP P w K mg base "dot" 4 ["one", "two"] R_dot) (Gt : KP P w K mg base "total" 3 ["fractions"] R_total) (Gm : KP P w K mg base "times" 2 ["one", "two"] R_times) (Gi : KP P w K mg base "minus" 2 ["one", "two"] R_minus) : FnOk P w K mg base CX0 5 f fd ["house", "weights", "worths", "stand", "deed"] (spP K R_gap_by) := by
  refine fn_pure (N := n_gap_by) F c_gap_by (fun ds PP h => ?_) (fun cdv A outer s H E hr ds PP h => ?_)
  · obtain ⟨h, wt, v, i, a, rfl, _⟩ := h
    rfl
  · obtain ⟨h, wt, v, i, a, rfl, ok, ow, hi, ha, hv, rfl⟩ := h
    have hd := ok.deed hi ha
    have hc := hd.ch
    have hl := hc.len
    obtain ⟨so, sa⟩ := ahead_ok ok hi ha hv
    obtain ⟨dok, dsz⟩ := ow.dot _ (stand_mem hi) _ (deed_mem ha)
    refine x_tgt (ix := [5, 6]) (P := Is (eDd (deed h i a))) (ev_ixT (ev_ixT (ev_ixT (nm 0) ev_int rfl) (nm 3) (at_st hi)) (nm 4) (at_dd ha)) ?_
    rintro _ rfl
    refine ⟨_, tg_pair (i := 5) (j := 6) rfl c_gap_by.nd rfl (.inl rfl) (.inl rfl) rfl (.inl rfl) (.inl rfl), ?_⟩
    refine x_setIs (i := 7) (d := eR (ahead (deed h i a).ch v)) c_gap_by.nd rfl (.inl rfl) (.inl rfl) (ev_call (Gt.mono (by decide : 3 ≤ 4)) hr rfl (ea_cons (EvalN.is (lc2 (xs := (deed h i a).ch) (e1 := fun (j : Nat) => .int (j : Int)) (e2 := eR) (g := fun p => eR (p.2 * v p.1)) 8 9 c_gap_by.nd (IterL.c (it_tup (nm 5))) (blkOk_by (N := n_gap_by) (sc := defScope s_gap_by) (by decide +kernel)) (by omega) fun p hp s0 H0 C cl fp => ?_)) ea_nil) ⟨(deed h i a).ch.map fun p : Nat × Rat => p.2 * v p.1, ?_, so, rfl⟩) ?_
    · exact ev_call (Gm.mono (by decide : 2 ≤ 4)) hr rfl (ea_cons (nm 9) (ea_cons (ev_ixT (nm 2) (nm 8) (at_row' (hc.key p hp))) ea_nil)) ⟨_, _, rfl, s0_of (ch_sz hc p hp), s0_of (hv _ (hc.key p hp)), rfl⟩
    · unfold eLst
      rw [List.map_map]
      rfl
    · exact x_retIs (ev_call (Gi.mono (by decide : 2 ≤ 4)) hr rfl (ea_cons (ev_call (Gi.mono (by decide : 2 ≤ 4)) hr rfl (ea_cons (ev_ixT (nm 2) (nm 3) (at_row' hi)) (ea_cons (ev_call Gd hr rfl (ea_cons (nm 1) (ea_cons (nm 6) ea_nil)) ⟨_, _, rfl, dok, rfl⟩) ea_nil)) ⟨_, _, rfl, s0_of (hv i hi), s0_of dsz, rfl⟩) (ea_cons (ev_call (Gm.mono (by decide : 2 ≤ 4)) hr rfl (ea_cons (ev_ixT (nm 0) ev_int rfl) (ea_cons (nm 7) ea_nil)) ⟨_, _, rfl, s0_of (sh_sz ok), s0_of sa, rfl⟩) ea_nil)) ⟨_, _, rfl, s0_of ((hv i hi).sub dsz), s0_of ((sh_sz ok).mul sa), rfl⟩) rfl
theorem gap_sz {h : Hs} {wt : List Rat} {i a : Nat} {v : Nat → Rat} (ok : HsOk h) (ow : WOk h wt) (hi : i < h.n) (ha : a < (stand h i).length) (hv : ∀ j, j < h.n → Sz 1000 1000 (v j)) : Sz 100000 100000 (gap h wt v i a) := by
  obtain ⟨so, sa⟩ := ahead_ok ok hi ha hv
  exact (((hv i hi).sub (ow.dot _ (stand_mem hi) _ (deed_mem ha)).2).sub ((sh_sz ok).mul sa)).mono (by decide) (by decide)
def R_gaps_by (ds : List PyData) (PP : PyData → Prop) : Prop := ∃ (h : Hs) (wt : List Rat) (v : Nat → Rat), ds = [eHs h, eRow wt, eRow (row h.n v)] ∧ HsOk h ∧ WOk h wt ∧ (∀ j, j < h.n → Sz 1000 1000 (v j)) ∧ PP = Is (.tuple ((List.range h.n).map fun i => eRow (gapRow h wt v i)))
theorem ok_gaps_by {f : Addr} {fd : FuncData} (B : Bt K mg) (F : Fun K "gaps_by" "gaps_by" s_gaps_by f fd) (Gg : KP P w K mg base "gap_by" 5 ["house", "weights", "worths", "stand", "deed"] R_gap_by) : FnOk P w K mg base CX0 6 f fd ["house", "weights", "worths"] (spP K R_gaps_by) := by
  refine fn_pure (N := n_gaps_by) F c_gaps_by (fun ds PP h => ?_) (fun cdv A outer s H E hr ds PP h => ?_)
  · obtain ⟨h, wt, v, rfl, _⟩ := h
    rfl
  · obtain ⟨h, wt, v, rfl, ok, ow, hv, rfl⟩ := h
    have n4 := ok.n4
    refine x_retIs (ev_tupOf rfl B.tuple (lc2c (xs := (List.range h.n).map fun i => (i, i)) (e1 := fun (i : Nat) => .int (i : Int)) (e2 := fun i => eSt (stand h i)) (g := fun p => eRow (gapRow h wt v p.1)) 3 4 c_gaps_by.nd (IterL.c (it_to (it_enumE (xs := h.st) (e1 := eSt) rfl B.enumerate (ev_ixT (nm 0) ev_int rfl) (.inr rfl)) ?_)) (blkOk_by (N := n_gaps_by) (sc := defScope s_gaps_by) (by decide +kernel)) (by rw [List.length_map, List.length_range]; omega) fun p hp s0 H0 C cl fp => ?_)) ?_
    · conv => lhs; rw [st_row h]
      rw [zipIdx_rng, List.map_map, List.map_map]
      rfl
    · obtain ⟨i, hi, rfl⟩ := List.mem_map.mp hp
      have hi := List.mem_range.mp hi
      have m4 := (ok.s1 _ (stand_mem hi)).2.1
      refine Eval.to (ev_tupOf rfl B.tuple (lc1 (xs := List.range (stand h i).length) (enc := fun (a : Nat) => .int (a : Int)) (g := fun a => eR (gap h wt v i a)) 5 c_gaps_by.nd (IterL.c (it_rangeE rfl B.range (Eval.to (ev_lenT rfl B.len (nm 4)) (by rw [List.length_map])) (by omega))) (blkOk_by (N := n_gaps_by) (sc := _) rfl) (by rw [List.length_range]; omega) fun a ha s0 H0 C cl fp => ?_)) ?_
      · have ha := List.mem_range.mp ha
        exact ev_call Gg hr rfl (ea_cons (nm 0) (ea_cons (nm 1) (ea_cons (nm 2) (ea_cons (nm 3) (ea_cons (nm 5) ea_nil))))) ⟨h, wt, v, i, a, rfl, ok, ow, hi, ha, hv, rfl⟩
      · unfold eRow gapRow
        rw [map_row]
    · rw [List.map_map]
      rfl
def R_ww (ds : List PyData) (PP : PyData → Prop) : Prop := ∃ (h : Hs) (wt : List Rat) (c : List Nat), ds = [eHs h, eRow wt, eCho c] ∧ HsOk h ∧ WOk h wt ∧ ChoOk h c ∧ PP = Is (eRow (row h.n (hts h wt c)))
theorem ok_weighted_worths {f : Addr} {fd : FuncData} (B : Bt K mg) (F : Fun K "weighted_worths" "weighted_worths" s_weighted_worths f fd) (Gd : KP P w K mg base "dot" 4 ["one", "two"] R_dot) (Gs : KP P w K mg base "still_by" 2 ["house", "choice"] R_still) (Gw : KP P w K mg base "worths_by" 6 ["house", "still"] R_worths_by) : FnOk P w K mg base CX0 7 f fd ["house", "weights", "choice"] (spP K R_ww) := by
  refine fn_pure (N := n_weighted_worths) F c_weighted_worths (fun ds PP h => ?_) (fun cdv A outer s H E hr ds PP h => ?_)
  · obtain ⟨h, wt, c, rfl, _⟩ := h
    rfl
  · obtain ⟨h, wt, c, rfl, ok, ow, hc, rfl⟩ := h
    have n4 := ok.n4
    have k4 := ok.k4
    refine x_retIs (ev_tupOf rfl B.tuple (lc1 (xs := List.range h.n) (enc := fun i => eRow (row h.k fun p => elm (tabl h c) h.n i (h.n + p))) (g := fun i => eR (hts h wt c i)) 3 c_weighted_worths.nd (IterL.c (it_tup (ev_call Gw hr rfl (ea_cons (nm 0) (ea_cons (ev_call (Gs.mono (by decide : 2 ≤ 6)) hr rfl (ea_cons (nm 0) (ea_cons (nm 2) ea_nil)) ⟨h, c, rfl, ok, hc.len, rfl⟩) ea_nil)) ⟨h, c, rfl, ok, hc, rfl⟩))) (blkOk_by (N := n_weighted_worths) (sc := defScope s_weighted_worths) (by decide +kernel)) (by rw [List.length_range]; omega) fun i hi s0 H0 C cl fp => ?_)) ?_
    · have hi := List.mem_range.mp hi
      refine ev_call (Gd.mono (by decide : 4 ≤ 6)) hr rfl (ea_cons (nm 1) (ea_cons (nm 3) ea_nil)) ⟨_, _, rfl, DotOk_of (a := 80) (b := 1000) (fun q hq => (ow.sz q hq).mono (by decide) (by decide)) (fun q hq => ?_) (by rw [ow.len]; exact k4) (by decide), rfl⟩
      obtain ⟨p, hp, rfl⟩ := row_mem hq
      exact (elim_ok ok hc).sz h.n (Nat.le_refl _) i hi _ (by omega)
    · unfold eRow
      rw [map_row]
      rfl
end
end Dh

set_option maxHeartbeats 4000000
/-! Turns, the best choice. -/
namespace Dh
open PySem PySem.Spec PyProof.Rows L2 Ab
theorem leastIx_ok {l : List Rat} (h : 0 < l.length) : leastIx l < l.length := leastIx_lt l h l.length (Nat.le_refl _)
theorem num_neg_iff (q : Rat) : decide (q.num < 0) = decide (q < 0) := by
  refine decide_eq_decide.mpr ⟨fun h => ?_, fun h => ?_⟩
  · by_cases h2 : q < 0
    · exact h2
    · have := Rat.num_nonneg.mpr (Rat.not_lt.mp h2)
      omega
  · by_cases h2 : q.num < 0
    · exact h2
    · have := Rat.num_nonneg.mp (by omega : 0 ≤ q.num)
      grind
theorem better_pos {r : List Rat} {a : Nat} (h : leastIx r < r.length) (hb : r[leastIx r] < 0) : better r a = leastIx r := by
  unfold better
  rw [List.getD_eq_getElem?_getD, List.getElem?_eq_getElem h, if_pos]
  exact hb
theorem better_neg {r : List Rat} {a : Nat} (h : leastIx r < r.length) (hb : ¬ r[leastIx r] < 0) : better r a = a := by
  unfold better
  rw [List.getD_eq_getElem?_getD, List.getElem?_eq_getElem h, if_neg]
  exact hb
theorem eCho_row {c : List Nat} {n : Nat} (h : c.length = n) : eCho c = .tuple ((List.range n).map fun i => .int ((c.getD i 0 : Nat) : Int)) := by
  unfold eCho
  conv => lhs; rw [cho_row h]
  rw [List.map_map]
  rfl
/-- the choice best_by ends with -/
def IsBest (h : Hs) (wt : List Rat) (c : List Nat) : Prop := ∃ m, c = itr h wt m ∧ turn h wt c = c
theorem itr_stay {h : Hs} {wt : List Rat} {m : Nat} (hf : turn h wt (itr h wt m) = itr h wt m) : ∀ k, itr h wt (m + k) = itr h wt m
  | 0 => rfl
  | k + 1 => by
    show turn h wt (itr h wt (m + k)) = _
    rw [itr_stay hf k, hf]
theorem IsBest.one {h : Hs} {wt : List Rat} {c c' : List Nat} (a : IsBest h wt c) (b : IsBest h wt c') : c = c' := by
  obtain ⟨m, rfl, f1⟩ := a
  obtain ⟨m', rfl, f2⟩ := b
  rcases Nat.le_total m m' with l | l
  · obtain ⟨k, rfl⟩ := Nat.exists_eq_add_of_le l
    exact (itr_stay f1 k).symm
  · obtain ⟨k, rfl⟩ := Nat.exists_eq_add_of_le l
    exact itr_stay f2 k
theorem itr_cho {h : Hs} {wt : List Rat} (ok : HsOk h) : ∀ m, ChoOk h (itr h wt m)
  | 0 => ⟨List.length_replicate, fun i hi => by
    have := (ok.s1 _ (stand_mem hi)).1
    have e : (itr h wt 0).getD i 0 = 0 := by
      show (List.replicate h.n 0).getD i 0 = 0
      rw [List.getD_eq_getElem?_getD, List.getElem?_replicate]
      split <;> rfl
    rw [e]
    omega⟩
  | m + 1 => turn_cho (itr_cho ok m)

section
variable {P : Program} {w : World} {K : PySem.W.Frag} {mg : Str → Option Value} {base : Heap}
def R_turn_by (ds : List PyData) (PP : PyData → Prop) : Prop := ∃ (h : Hs) (wt : List Rat) (c : List Nat), ds = [eHs h, eRow wt, eCho c] ∧ HsOk h ∧ WOk h wt ∧ ChoOk h c ∧ PP = Is (eCho (turn h wt c))
theorem ok_turn_by {f : Addr} {fd : FuncData} (B : Bt K mg) (F : Fun K "turn_by" "turn_by" s_turn_by f fd) (Gg : KP P w K mg base "gaps_by" 6 ["house", "weights", "worths"] R_gaps_by) (Gw : KP P w K mg base "weighted_worths" 7 ["house", "weights", "choice"] R_ww) (Gl : KP P w K mg base "least_at" 2 ["row"] R_least_at) : FnOk P w K mg base CX0 8 f fd ["house", "weights", "choice"] (spP K R_turn_by) := by
  refine fn_pure (N := n_turn_by) F c_turn_by (fun ds PP h => ?_) (fun cdv A outer s H E hr ds PP h => ?_)
  · obtain ⟨h, wt, c, rfl, _⟩ := h
    rfl
  · obtain ⟨h, wt, c, rfl, ok, ow, hc, rfl⟩ := h
    have n4 := ok.n4
    have hv : ∀ j, j < h.n → Sz 1000 1000 (hts h wt c j) := fun j hj => hts_sz ok ow hc hj
    refine x_setIs (i := 3) (d := .tuple ((List.range h.n).map fun i => eRow (gapRow h wt (hts h wt c) i))) c_turn_by.nd rfl (.inl rfl) (.inl rfl) (ev_call (Gg.mono (by decide : 6 ≤ 7)) hr rfl (ea_cons (nm 0) (ea_cons (nm 1) (ea_cons (ev_call Gw hr rfl (ea_cons (nm 0) (ea_cons (nm 1) (ea_cons (nm 2) ea_nil))) ⟨h, wt, c, rfl, ok, ow, hc, rfl⟩) ea_nil))) ⟨h, wt, _, rfl, ok, ow, hv, rfl⟩) ?_
    refine x_retIs (ev_tupOf rfl B.tuple (lc2 (xs := (List.range h.n).map fun i => (i, i)) (e1 := fun i => eRow (gapRow h wt (hts h wt c) i)) (e2 := fun i => .int ((c.getD i 0 : Nat) : Int)) (g := fun p => .int ((better (gapRow h wt (hts h wt c) p.1) (c.getD p.1 0) : Nat) : Int)) 4 5 c_turn_by.nd (IterL.c (it_to (it_zipE (xs := List.range h.n) (ys := List.range h.n) (e1 := fun i => eRow (gapRow h wt (hts h wt c) i)) (e3 := fun (i : Nat) => .int ((c.getD i 0 : Nat) : Int)) rfl B.zip (nm 3) (nm 2) (.inr rfl) (.inr (eCho_row hc.len))) (by rw [zip_same]))) (blkOk_by (N := n_turn_by) (sc := defScope s_turn_by) (by decide +kernel)) (by rw [List.length_map, List.length_range]; omega) fun p hp s0 H0 C cl fp => ?_)) ?_
    · obtain ⟨i, hi, rfl⟩ := List.mem_map.mp hp
      have hi := List.mem_range.mp hi
      obtain ⟨m1, m4, hd⟩ := ok.s1 _ (stand_mem hi)
      have hlen : (gapRow h wt (hts h wt c) i).length = (stand h i).length := row_len _ _
      have hne : gapRow h wt (hts h wt c) i ≠ [] := fun e => by
        rw [e] at hlen
        have : 0 = (stand h i).length := hlen
        omega
      have hsz : ∀ x ∈ gapRow h wt (hts h wt c) i, Sz 100000 100000 x := fun x hx => by
        obtain ⟨a, ha, rfl⟩ := row_mem hx
        exact gap_sz ok ow hi ha hv
      have hlt := leastIx_ok (l := gapRow h wt (hts h wt c) i) (by omega)
      have call : ∀ {X : Cx} {es : List Sl} {pos p pe : Pos} (hK : X.K = K) (hP : X.prog = P) (hw : X.w = w), True := fun _ _ _ => trivial
      refine Eval.to (ev_if (P := Is (.int ((better (gapRow h wt (hts h wt c) i) (c.getD i 0) : Nat) : Int))) (et_lt (ev_ixT (ev_ixT (nm 4) (ev_call (Gl.mono (by decide : 2 ≤ 7)) hr rfl (ea_cons (nm 4) ea_nil) ⟨_, rfl, hne, by omega, hsz, rfl⟩) (at_row hlt)) ev_int rfl) ev_int) (fun hb => ?_) (fun hb => ?_)) rfl
      · refine Eval.to (ev_call (Gl.mono (by decide : 2 ≤ 7)) hr rfl (ea_cons (nm 4) ea_nil) ⟨_, rfl, hne, by omega, hsz, rfl⟩) ?_
        have hb' : decide ((gapRow h wt (hts h wt c) i)[leastIx (gapRow h wt (hts h wt c) i)] < 0) = true := by
          rw [← num_neg_iff]
          exact hb.symm
        rw [better_pos hlt (of_decide_eq_true hb')]
      · refine Eval.to (nm 5) ?_
        have hb' : decide ((gapRow h wt (hts h wt c) i)[leastIx (gapRow h wt (hts h wt c) i)] < 0) = false := by
          rw [← num_neg_iff]
          exact hb.symm
        rw [better_neg hlt (of_decide_eq_false hb')]
    · unfold eCho turn
      rw [List.map_map, List.map_map]
      rfl
def R_best_by (ds : List PyData) (PP : PyData → Prop) : Prop := ∃ (h : Hs) (wt : List Rat), ds = [eHs h, eRow wt] ∧ HsOk h ∧ WOk h wt ∧ PP = fun d => ∃ c, IsBest h wt c ∧ ChoOk h c ∧ d = .tuple [eRow (row h.n (hts h wt c)), eCho c]
theorem ok_best_by {f : Addr} {fd : FuncData} (B : Bt K mg) (F : Fun K "best_by" "best_by" s_best_by f fd) (Gw : KP P w K mg base "weighted_worths" 7 ["house", "weights", "choice"] R_ww) (Gt : KP P w K mg base "turn_by" 8 ["house", "weights", "choice"] R_turn_by) : FnOk P w K mg base CX0 9 f fd ["house", "weights"] (spP K R_best_by) := by
  refine fn_pure (N := n_best_by) F c_best_by (fun ds PP h => ?_) (fun cdv A outer s H E hr ds PP h => ?_)
  · obtain ⟨h, wt, rfl, _⟩ := h
    rfl
  · obtain ⟨h, wt, rfl, ok, ow, rfl⟩ := h
    have n1 : 1 ≤ h.n := ok.n1
    have n4 : h.n ≤ 4 := ok.n4
    have co := itr_cho (wt := wt) ok
    obtain ⟨M, hM⟩ := itr_fix ok ow
    refine x_setIs (i := 2) (d := eCho (itr h wt 0)) c_best_by.nd rfl (.inl rfl) (.inl rfl) (Eval.to (ev_repT (n := h.n) (ev_tup (ea_cons ev_int ea_nil)) (Eval.to (ev_lenT rfl B.len (ev_ixT (nm 0) ev_int rfl)) (by rw [List.length_map]; rfl)) n1 (by omega)) ?_) ?_
    · unfold eCho itr
      rw [List.map_replicate]
      rfl
    refine x_setIs (i := 3) (d := eCho (itr h wt 1)) c_best_by.nd rfl (.inl rfl) (.inl rfl) (ev_call Gt hr rfl (ea_cons (nm 0) (ea_cons (nm 1) (ea_cons (nm 2) ea_nil))) ⟨h, wt, _, rfl, ok, ow, co 0, rfl⟩) ?_
    refine x_while PassesOwn.never (fun m es => ∃ j, j ≤ M ∧ m = M - j ∧ es = [.val (eHs h), .val (eRow wt), .val (eCho (itr h wt j)), .val (eCho (itr h wt (j + 1)))]) M ⟨0, Nat.zero_le _, rfl, rfl⟩ fun m es ⟨j, hj, hm, he⟩ => ?_
    subst he hm
    refine ⟨!decide (itr h wt (j + 1) = itr h wt j), EvalT.to (et_neD hr.units (nm 3) (nm 2) (shaped_Cho _) (shaped_Cho _)) (by rw [eqv_Cho]), fun hb => ?_, fun hb => ?_⟩
    · have ne : ¬ itr h wt (j + 1) = itr h wt j := by simpa using hb
      have hlt : j < M := by
        rcases Nat.lt_or_ge j M with z | z
        · exact z
        · have e : j = M := by omega
          subst e
          exact absurd hM ne
      exact x_par (i := 2) (j := 3) rfl c_best_by.nd rfl rfl (by decide) rfl rfl (ea_cons (nm 3) (ea_cons (ev_call Gt hr rfl (ea_cons (nm 0) (ea_cons (nm 1) (ea_cons (nm 3) ea_nil))) ⟨h, wt, _, rfl, ok, ow, co (j + 1), rfl⟩) ea_nil)) (x_nil ⟨M - (j + 1), by omega, j + 1, by omega, rfl, rfl⟩)
    · have e : itr h wt (j + 1) = itr h wt j := by simpa using hb
      exact x_retIs (ev_tup (ea_cons (ev_call (Gw.mono (by decide : 7 ≤ 8)) hr rfl (ea_cons (nm 0) (ea_cons (nm 1) (ea_cons (nm 2) ea_nil))) ⟨h, wt, _, rfl, ok, ow, co j, rfl⟩) (ea_cons (nm 2) ea_nil))) ⟨_, ⟨j, rfl, e⟩, co j, rfl⟩
theorem ok_best {f : Addr} {fd : FuncData} (B : Bt K mg) (F : Fun K "best" "best" s_best f fd) (Gh : KP P w K mg base "check_house" 8 ["value"] R_check_house) (Gc : KP P w K mg base "check_weights" 3 ["house", "value"] R_check_weights) (Gb : KP P w K mg base "best_by" 9 ["house", "weights"] R_best_by) : FnOk P w K mg base CX0 10 f fd ["house", "weights"] (spP K R_best_by) := by
  refine fn_pure (N := n_best) F c_best (fun ds PP h => ?_) (fun cdv A outer s H E hr ds PP h => ?_)
  · obtain ⟨h, wt, rfl, _⟩ := h
    rfl
  · obtain ⟨h, wt, rfl, ok, ow, rfl⟩ := h
    have k4 := ok.k4
    refine x_do (ev_call (Gh.mono (by decide : 8 ≤ 9)) hr rfl (ea_cons (nm 0) ea_nil) ⟨h, rfl, ok, rfl⟩) ?_
    refine x_do (ev_call (Gc.mono (by decide : 3 ≤ 9)) hr rfl (ea_cons (nm 0) (ea_cons (nm 1) ea_nil)) ⟨h, wt, rfl, ow.len, by omega, rfl⟩) ?_
    exact x_ret (ev_call Gb hr rfl (ea_cons (nm 0) (ea_cons (nm 1) ea_nil)) ⟨h, wt, rfl, ok, ow, rfl⟩) (fun _ h => h)
theorem ok_weighted {f : Addr} {fd : FuncData} (B : Bt K mg) (F : Fun K "weighted" "weighted" s_weighted f fd) (Gh : KP P w K mg base "check_house" 8 ["value"] R_check_house) (Gc : KP P w K mg base "check_weights" 3 ["house", "value"] R_check_weights) (Gb : KP P w K mg base "weighted_by" 5 ["house", "weights"] R_weighted_by) : FnOk P w K mg base CX0 9 f fd ["house", "weights"] (spP K R_weighted_by) := by
  refine fn_pure (N := n_weighted) F c_weighted (fun ds PP h => ?_) (fun cdv A outer s H E hr ds PP h => ?_)
  · obtain ⟨h, wt, rfl, _⟩ := h
    rfl
  · obtain ⟨h, wt, rfl, ok, ow, rfl⟩ := h
    have k4 := ok.k4
    refine x_do (ev_call Gh hr rfl (ea_cons (nm 0) ea_nil) ⟨h, rfl, ok, rfl⟩) ?_
    refine x_do (ev_call (Gc.mono (by decide : 3 ≤ 8)) hr rfl (ea_cons (nm 0) (ea_cons (nm 1) ea_nil)) ⟨h, wt, rfl, ow.len, by omega, rfl⟩) ?_
    exact x_ret (ev_call (Gb.mono (by decide : 5 ≤ 8)) hr rfl (ea_cons (nm 0) (ea_cons (nm 1) ea_nil)) ⟨h, wt, rfl, ok, ow, rfl⟩) (fun _ h => h)
end
end Dh

set_option maxHeartbeats 4000000
/-! Names in parallel, the last one a new list. -/
namespace Ab
open PySem PySem.Spec PyProof.Rows L2
section
variable {X : Cx} {es : List Sl} {N : List Sl → Prop} {R : RP} {rest : List Stmt} {pos px py pz pt pt2 : Pos} {a b c : Expr} {kt k2 : Nat} {P1 P2 : PyData → Prop} {PN : List PyData → Prop} {x y z : Str} {i j l : Nat}
theorem x_parP (hN : X.N.Nodup) (hij : i ≠ j) (h1 : Eval X a es P1) (h2 : Eval X b es P2) (k : ∀ d1 d2, P1 d1 → P2 d2 → Exec X rest ((es.set i (.val d1)).set j (.val d2)) N R)
    (hc : X.calm = true := by rfl) (hi : X.N[i]? = some x := by rfl) (hj : X.N[j]? = some y := by rfl) (hx : X.env.scope.names.lookup x = some .local := by rfl) (hy : X.env.scope.names.lookup y = some .local := by rfl)
    (hs3 : starEach [a, b] X.env = (false, eval a X.env) :: starEach [b] X.env := by rfl) (hs4 : starEach [b] X.env = (false, eval b X.env) :: starEach [] X.env := by rfl)
    (hw : swappedStores [.Tuple [.Name x px, .Name y py] kt pt] (.Tuple [a, b] k2 pt2) X.env = pure (some [x, y]) := by rfl)
    (hs : swapsWithSole [.Tuple [.Name x px, .Name y py] kt pt] (.Tuple [a, b] k2 pt2) pos.line X.env = pure false := by rfl) : Exec X (.Assign [.Tuple [.Name x px, .Name y py] kt pt] (.Tuple [a, b] k2 pt2) pos :: rest) es N R := fun W O σ H S D qn qr =>
  tss_of (pss_cons (ps_par hc hN hi hj hij hx hy (pa_cons pe_s (pa_cons pe_s pa_nil hs4) hs3) hw hs) pss_s) (h1 W O σ H S _ fun v1 H1 d1 f1 S1 p1 r1 => h2 W O σ H1 S1 _ fun v2 H2 d2 f2 S2 p2 r2 =>
    ⟨_, _, rfl, k d1 d2 p1 p2 W O _ H2 ((S2.set i (r1.mono (S1.fx_hid f2))).set j r2) D (fun O' σ' H3 es' n t S3 => qn O' σ' H3 es' n ((S.trn (f1.trans f2)).trans t) S3) qr⟩)
theorem x_parN (hN : X.N.Nodup) (hij : i ≠ j) (h1 : Eval X a es P1) (h2 : EvalN X b es PN) (k : ∀ d1 ds, P1 d1 → PN ds → Exec X rest ((es.set i (.val d1)).set j (.own ds)) N R)
    (hc : X.calm = true := by rfl) (hi : X.N[i]? = some x := by rfl) (hj : X.N[j]? = some y := by rfl) (hx : X.env.scope.names.lookup x = some .local := by rfl) (hy : X.env.scope.names.lookup y = some .local := by rfl)
    (hs3 : starEach [a, b] X.env = (false, eval a X.env) :: starEach [b] X.env := by rfl) (hs4 : starEach [b] X.env = (false, eval b X.env) :: starEach [] X.env := by rfl)
    (hw : swappedStores [.Tuple [.Name x px, .Name y py] kt pt] (.Tuple [a, b] k2 pt2) X.env = pure (some [x, y]) := by rfl)
    (hs : swapsWithSole [.Tuple [.Name x px, .Name y py] kt pt] (.Tuple [a, b] k2 pt2) pos.line X.env = pure false := by rfl) : Exec X (.Assign [.Tuple [.Name x px, .Name y py] kt pt] (.Tuple [a, b] k2 pt2) pos :: rest) es N R := fun W O σ H S D qn qr =>
  tss_of (pss_cons (ps_par hc hN hi hj hij hx hy (pa_cons pe_s (pa_cons pe_s pa_nil hs4) hs3) hw hs) pss_s) (h1 W O σ H S _ fun v1 H1 d1 f1 S1 p1 r1 => h2 W O σ H1 S1 _ fun q vs H2 ds f2 S2 p2 hn m r =>
    ⟨_, _, rfl, k d1 ds p1 p2 W (q :: O) _ H2 ((S1.set i r1).ownNew f2 (S2.set i (r1.mono (S1.fx_hid f2))) hn m r) D (fun O' σ' H3 es' n t S3 => qn O' σ' H3 es' n (((S.trn f1).trans (Trn.newOwn S1 f2 hn)).trans t) S3) qr⟩)
theorem x_par3N (hN : X.N.Nodup) (hij : i ≠ j) (hil : i ≠ l) (hjl : j ≠ l) (h1 : Eval X a es P1) (h2 : Eval X b es P2) (h3 : EvalN X c es PN) (k : ∀ d1 d2 ds, P1 d1 → P2 d2 → PN ds → Exec X rest (((es.set i (.val d1)).set j (.val d2)).set l (.own ds)) N R)
    (hc : X.calm = true := by rfl) (hi : X.N[i]? = some x := by rfl) (hj : X.N[j]? = some y := by rfl) (hl : X.N[l]? = some z := by rfl) (hx : X.env.scope.names.lookup x = some .local := by rfl) (hy : X.env.scope.names.lookup y = some .local := by rfl) (hz : X.env.scope.names.lookup z = some .local := by rfl)
    (hs2 : starEach [a, b, c] X.env = (false, eval a X.env) :: starEach [b, c] X.env := by rfl) (hs3 : starEach [b, c] X.env = (false, eval b X.env) :: starEach [c] X.env := by rfl) (hs4 : starEach [c] X.env = (false, eval c X.env) :: starEach [] X.env := by rfl)
    (hw : swappedStores [.Tuple [.Name x px, .Name y py, .Name z pz] kt pt] (.Tuple [a, b, c] k2 pt2) X.env = pure (some [x, y, z]) := by rfl)
    (hs : swapsWithSole [.Tuple [.Name x px, .Name y py, .Name z pz] kt pt] (.Tuple [a, b, c] k2 pt2) pos.line X.env = pure false := by rfl) : Exec X (.Assign [.Tuple [.Name x px, .Name y py, .Name z pz] kt pt] (.Tuple [a, b, c] k2 pt2) pos :: rest) es N R := fun W O σ H S D qn qr =>
  tss_of (pss_cons (ps_par3 hc hN hi hj hl hij hil hjl hx hy hz (pa_cons pe_s (pa_cons pe_s (pa_cons pe_s pa_nil hs4) hs3) hs2) hw hs) pss_s) (h1 W O σ H S _ fun v1 H1 d1 f1 S1 p1 r1 => h2 W O σ H1 S1 _ fun v2 H2 d2 f2 S2 p2 r2 => h3 W O σ H2 S2 _ fun q vs H3 ds f3 S3 p3 hn m r =>
    ⟨_, _, _, rfl, k d1 d2 ds p1 p2 p3 W (q :: O) _ H3 (((S2.set i (r1.mono (S1.fx_hid f2))).set j r2).ownNew f3 ((S3.set i ((r1.mono (S1.fx_hid f2)).mono (S2.fx_hid f3))).set j (r2.mono (S2.fx_hid f3))) hn m r) D (fun O' σ' H3 es' n t S3 => qn O' σ' H3 es' n (((S.trn (f1.trans f2)).trans (Trn.newOwn S2 f3 hn)).trans t) S3) qr⟩)
end
end Ab

set_option maxHeartbeats 4000000
/-! The law's own worths. -/
namespace Dh
open PySem PySem.Spec PyProof.Rows L2 Ab
theorem get_rng {α : Type} {n i : Nat} {f : Nat → α} {d : α} (h : ((List.range n).map f)[i]? = some d) : i < n ∧ d = f i := by
  rw [List.getElem?_map] at h
  by_cases hi : i < n
  · rw [List.getElem?_range hi] at h
    exact ⟨hi, (Option.some.inj h).symm⟩
  · have e : (List.range n)[i]? = none := by simp; omega
    rw [e] at h
    cases h
theorem eR_pair (p : Prop) [Decidable p] : PyData.tuple [.int (if p then 1 else 0), .int 1] = eR (if p then 1 else 0) := by
  split <;> rfl
theorem st_enc (h : Hs) : h.st.map eSt = (List.range h.n).map fun i => eSt (stand h i) := by
  conv => lhs; rw [st_row h]
  rw [List.map_map]
  rfl
theorem dd_enc (h : Hs) (i : Nat) : (stand h i).map eDd = (List.range (stand h i).length).map fun a => eDd (deed h i a) := by
  conv => lhs; rw [dd_row (h := h) (i := i)]
  rw [List.map_map]
  rfl
theorem z0 : S0 (0 : Rat) := ⟨by decide +kernel, by decide +kernel⟩
section
variable {P : Program} {w : World} {K : PySem.W.Frag} {mg : Str → Option Value} {base : Heap}
theorem ok_law_dot {f : Addr} {fd : FuncData} (B : Bt K mg) (F : Fun K "_law_dot" "_law_dot" s_law_dot f fd) (Gp : KP P w K mg base "_law_plus" 2 ["_law_x", "_law_y"] R_plus) (Gm : KP P w K mg base "_law_times" 2 ["_law_x", "_law_y"] R_times) : FnOk P w K mg base CX0 3 f fd ["_law_one", "_law_two"] (spP K R_dot) := by
  refine fn_pure (N := n_law_dot) F c_law_dot (fun ds PP h => ?_) (fun cdv A outer s H E hr ds PP h => ?_)
  · obtain ⟨x, y, rfl, _⟩ := h
    rfl
  · obtain ⟨x, y, rfl, ⟨hp, hs⟩, rfl⟩ := h
    refine x_setIs (i := 2) (d := eR 0) c_law_dot.nd rfl (.inl rfl) (.inl rfl) (ev_tup (ea_cons ev_int (ea_cons ev_int ea_nil))) ?_
    refine x_for PassesOwn.never rfl (it_zipE (xs := x) (ys := y) (e1 := eR) (e3 := eR) rfl B.zip (nm 0) (nm 1) (.inr rfl) (.inr rfl)) (fun _ i es => ∃ e3 e4, es = [.val (eRow x), .val (eRow y), .val (eR (sumR (((x.zip y).map fun p : Rat × Rat => p.1 * p.2).take i))), e3, e4]) (fun items p => ⟨_, _, rfl⟩) (fun items p i d es1 hd ⟨e3, e4, he⟩ => ?_) (fun items p es1 ⟨e3, e4, he⟩ => ?_)
    · have p' := p
      unfold Ab.IsL at p'
      subst p' he
      obtain ⟨hi, rfl⟩ := get_of_map hd
      obtain ⟨a1, a2⟩ := hp _ (List.getElem_mem hi)
      have hl : i < ((x.zip y).map fun p : Rat × Rat => p.1 * p.2).length := by rw [List.length_map]; exact hi
      refine ⟨_, _, tg_pair (i := 3) (j := 4) rfl c_law_dot.nd rfl (.inl rfl) (.inl rfl) rfl (.inl rfl) (.inl rfl), ?_⟩
      refine x_setIs (i := 2) c_law_dot.nd rfl (.inl rfl) (.inl rfl) (ev_call Gp hr rfl (ea_cons (nm 2) (ea_cons (ev_call Gm hr rfl (ea_cons (nm 3) (ea_cons (nm 4) ea_nil)) ⟨_, _, rfl, a1, a2, rfl⟩) ea_nil)) ⟨_, _, rfl, hs.2.2 i (by omega), hs.2.1 _ (List.mem_map.mpr ⟨_, List.getElem_mem hi, rfl⟩), rfl⟩) (x_nil ⟨.val (eR (x.zip y)[i].1), .val (eR (x.zip y)[i].2), ?_⟩)
      rw [sumR_take hl, List.getElem_map]
      rfl
    · have p' := p
      unfold Ab.IsL at p'
      subst p' he
      refine x_retIs (nm 2) ?_
      rw [List.length_map, List.take_of_length_le (by rw [List.length_map]; exact Nat.le_refl _)]
      rfl
theorem ok_law_sure {f : Addr} {fd : FuncData} (B : Bt K mg) (F : Fun K "_law_sure" "_law_sure" s_law_sure f fd) : FnOk P w K mg base CX0 1 f fd ["_law_world_here", "_law_chosen"] (spP K R_still) := by
  refine fn_pure (N := n_law_sure) F c_law_sure (fun ds PP h => ?_) (fun cdv A outer s H E hr ds PP h => ?_)
  · obtain ⟨h, c, rfl, _⟩ := h
    rfl
  · obtain ⟨h, c, rfl, ok, hc, rfl⟩ := h
    have n4 := ok.n4
    refine x_ownIs (ds := []) (i := 2) c_law_sure.nd rfl (.inl rfl) (.inl rfl) (el_lst ea_nil) ?_
    refine x_for PassesOwn.never rfl (it_to (Q := (List.range h.n).map fun i => .tuple [eSt (stand h i), .int ((c.getD i 0 : Nat) : Int)]) (it_zipE (xs := List.range h.n) (ys := List.range h.n) (e1 := fun i => eSt (stand h i)) (e3 := fun (i : Nat) => .int ((c.getD i 0 : Nat) : Int)) rfl B.zip (ev_ixT (nm 0) ev_int rfl) (nm 1) (.inr (congrArg PyData.tuple (st_enc h))) (.inr (eCho_row hc))) (by rw [zip_same, List.map_map]; rfl)) (fun _ i es => ∃ e3 e4, es = [.val (eHs h), .val (eCho c), .own ((List.range i).map fun i => eRow (plainOdds (c.getD i 0 : Nat) (stand h i).length)), e3, e4, .no]) (fun items p => ⟨_, _, rfl⟩) (fun items p i d es1 hd ⟨e3, e4, he⟩ => ?_) (fun items p es1 ⟨e3, e4, he⟩ => ?_)
    · have p' := p
      unfold Ab.IsL at p'
      subst p' he
      obtain ⟨hi, rfl⟩ := get_rng hd
      have m4 := (ok.s1 _ (stand_mem hi)).2.1
      refine ⟨_, _, tg_pair (i := 3) (j := 4) rfl c_law_sure.nd rfl (.inl rfl) (.inl rfl) rfl (.inr rfl) (.inl rfl), ?_⟩
      refine x_app (i := 2) (P := Is (eRow (plainOdds (c.getD i 0 : Nat) (stand h i).length))) rfl rfl (.inl rfl) (Eval.to (ev_tupOf rfl B.tuple (lc1 (xs := List.range (stand h i).length) (enc := fun (a : Nat) => .int (a : Int)) (g := fun a => eR (if a = c.getD i 0 then 1 else 0)) 5 c_law_sure.nd (IterL.c (it_rangeE rfl B.range (Eval.to (ev_lenT rfl B.len (nm 3)) (by rw [List.length_map])) (by omega))) (blkOk_by (N := n_law_sure) (sc := defScope s_law_sure) (by decide +kernel)) (by rw [List.length_range]; omega) fun a ha s0 H0 C cl fp => ?_)) ?_) (by rw [List.length_map, List.length_range]; omega) ?_
      · refine Eval.to (ev_tup (ea_cons (d := .int (if a = c.getD i 0 then 1 else 0)) (ev_if (et_eqI (nm 5) (nm 4)) (fun h => ?_) (fun h => ?_)) (ea_cons ev_int ea_nil))) (eR_pair _)
        · have e : a = c.getD i 0 := by
            have := of_decide_eq_true h.symm
            omega
          rw [if_pos e]
          exact ev_int
        · have e : ¬ a = c.getD i 0 := fun e => of_decide_eq_false h.symm (by rw [e])
          rw [if_neg e]
          exact ev_int
      · rw [odds_rng]
        unfold eRow
        rw [List.map_map]
        rfl
      · rintro _ rfl
        refine x_nil ⟨.val (eSt (stand h i)), .val (.int ((c.getD i 0 : Nat) : Int)), ?_⟩
        rw [List.range_succ, List.map_append]
        rfl
    · have p' := p
      unfold Ab.IsL at p'
      subst p' he
      rw [List.length_map, List.length_range]
      exact x_retIs (ev_callTyO call_tuple_of rfl B.tuple (by decide +kernel) (i := 2) rfl rfl (.inl rfl) co_tup) rfl
def R_lsolved (ds : List PyData) (PP : PyData → Prop) : Prop := ∃ (n m : Nat) (T : Nat → Nat → Rat), ds = [.list (eTab n (n + m) T)] ∧ ElimOk n (n + m) T ∧ PP = Is (.list ((List.range n).map fun i => eRow (row m fun j => elm T n i (n + j))))
def mixT (k i : Nat) (T : Nat → Nat → Rat) (r : Nat) : Nat → Rat := if r = k ∨ r < i then stp k T r else T r
theorem mix_set {n c k i : Nat} {T : Nat → Nat → Rat} (hi : i < n) (hik : ¬ i = k) : (eTab n c (mixT k i T)).set i (eLst (row c (stp k T i))) = eTab n c (mixT k (i + 1) T) := by
  unfold eTab
  apply List.ext_getElem?
  intro r
  rw [List.getElem?_set]
  by_cases hr : r < n
  · by_cases e : i = r
    · subst e
      rw [if_pos rfl, if_pos (by rw [List.length_map, List.length_range]; exact hi), List.getElem?_map, List.getElem?_range hr]
      show _ = some (eLst (row c (mixT k (i + 1) T i)))
      unfold mixT
      rw [if_pos (.inr (by omega))]
    · rw [if_neg e, List.getElem?_map, List.getElem?_map, List.getElem?_range hr]
      show some (eLst (row c (mixT k i T r))) = some (eLst (row c (mixT k (i + 1) T r)))
      unfold mixT
      congr 3
      by_cases h1 : r = k ∨ r < i
      · rw [if_pos h1, if_pos (by omega)]
      · rw [if_neg h1, if_neg (by omega)]
  · have e : (List.range n)[r]? = none := by simp; omega
    rw [if_neg (by omega), List.getElem?_map, List.getElem?_map, e]
    rfl
theorem mix_same {n c k i : Nat} {T : Nat → Nat → Rat} (h : i = k ∨ T i k = 0) : eTab n c (mixT k (i + 1) T) = eTab n c (mixT k i T) := by
  unfold eTab
  apply List.map_congr_left
  intro r _
  congr 1
  refine row_congr fun j _ => ?_
  unfold mixT
  by_cases e : r = i
  · subst e
    rcases h with h | h
    · rw [if_pos (.inl h), if_pos (.inl h)]
    · by_cases e2 : r = k
      · rw [if_pos (.inl e2), if_pos (.inl e2)]
      · rw [if_pos (.inr (by omega)), if_neg (by omega)]
        unfold stp
        rw [if_neg e2, h]
        grind
  · by_cases h1 : r = k ∨ r < i
    · rw [if_pos h1, if_pos (by omega)]
    · rw [if_neg h1, if_neg (by omega)]
theorem mix_last {n c k : Nat} {T : Nat → Nat → Rat} : eTab n c (mixT k n T) = eTab n c (stp k T) := by
  unfold eTab
  apply List.map_congr_left
  intro r hr
  have hr := List.mem_range.mp hr
  unfold mixT
  rw [if_pos (.inr hr)]
theorem mix_first {n c k : Nat} {T : Nat → Nat → Rat} (hk : k < n) : (eTab n c T).set k (eLst (row c fun j => T k j / T k k)) = eTab n c (mixT k 0 T) := by
  unfold eTab
  apply List.ext_getElem?
  intro r
  rw [List.getElem?_set]
  by_cases hr : r < n
  · by_cases e : k = r
    · subst e
      rw [if_pos rfl, if_pos (by rw [List.length_map, List.length_range]; exact hk), List.getElem?_map, List.getElem?_range hr]
      show _ = some (eLst (row c (mixT k 0 T k)))
      congr 2
      refine row_congr fun j _ => ?_
      unfold mixT stp
      rw [if_pos (.inl rfl), if_pos rfl]
    · rw [if_neg e, List.getElem?_map, List.getElem?_map, List.getElem?_range hr]
      show some (eLst (row c (T r))) = some (eLst (row c (mixT k 0 T r)))
      unfold mixT
      rw [if_neg (by omega)]
  · have e : (List.range n)[r]? = none := by simp; omega
    rw [if_neg (by omega), List.getElem?_map, List.getElem?_map, e]
    rfl
theorem num_zero_iff (q : Rat) : decide (q.num = 0) = decide (q = 0) := decide_eq_decide.mpr Rat.num_eq_zero
theorem ok_law_solved {f : Addr} {fd : FuncData} (B : Bt K mg) (F : Fun K "_law_solved" "_law_solved" s_law_solved f fd) (Go : KP P w K mg base "_law_over" 2 ["_law_x", "_law_y"] R_over) (Gi : KP P w K mg base "_law_minus" 2 ["_law_x", "_law_y"] R_minus) (Gm : KP P w K mg base "_law_times" 2 ["_law_x", "_law_y"] R_times) : FnOk P w K mg base CX0 3 f fd ["_law_lines"] (spP K R_lsolved) := by
  refine fn_pure (N := n_law_solved) F c_law_solved (fun ds PP h => ?_) (fun cdv A outer s H E hr ds PP h => ?_)
  · obtain ⟨n, m, T, rfl, _⟩ := h
    rfl
  · obtain ⟨n, m, T, rfl, ok, rfl⟩ := h
    have hn := ok.nn
    have hc := ok.cc
    refine x_ownIs (ds := eTab n (n + m) T) (i := 1) c_law_solved.nd rfl (.inr rfl) (.inl rfl) (EvalN.to (lc1 (xs := List.range n) (enc := fun i => eLst (row (n + m) (T i))) (g := fun i => eLst (row (n + m) (T i))) 6 c_law_solved.nd (IterL.c (it_list (nm 0))) (blkOk_by (N := n_law_solved) (sc := defScope s_law_solved) (by decide +kernel)) (by rw [List.length_range]; omega) fun i hi s0 H0 C cl fp => EvalN.is (en_list rfl B.list (.inl (nm 6)))) rfl) ?_
    refine x_for PassesOwn.never rfl (it_rangeE (n := n) rfl B.range (Eval.to (ev_callBO call_len_seq rfl B.len (by decide +kernel) (i := 1) rfl rfl (.inr (.inl rfl)) co_len) (by rw [tab_len])) (by omega)) (fun _ k es => ∃ e2 e3 e4 e5, es = [.val (.list (eTab n (n + m) T)), .own (eTab n (n + m) (elm T k)), e2, e3, e4, e5, .no, .no, .no]) (fun items p => ⟨_, _, _, _, rfl⟩) (fun items p k d es1 hd ⟨e2, e3, e4, e5, he⟩ => ?_) (fun items p es1 ⟨e2, e3, e4, e5, he⟩ => ?_)
    · have p' := p
      unfold Ab.IsL at p'
      subst p' he
      obtain ⟨hk, rfl⟩ := get_rng hd
      have hpv := ok.pv k hk
      have hsz := ok.sz k (by omega)
      have hsz1 := ok.sz (k + 1) (by omega)
      have hl : k < (eTab n (n + m) (elm T k)).length := by rw [tab_len]; exact hk
      refine ⟨_, _, tg_name (i := 2) c_law_solved.nd rfl (.inl rfl) (.inl rfl), ?_⟩
      refine x_setIs (i := 3) (d := eR (elm T k k k)) c_law_solved.nd rfl (.inr rfl) (.inl rfl) (ev_ixL (ixO 1 (nm 2) (atI_nat (tab_at hk))) (nm 2) (at_row' (by omega))) ?_
      refine x_put (i := 1) (P := Is (eLst (row (n + m) fun j => elm T k k j / elm T k k k))) rfl rfl (.inr (.inl rfl)) (EvalN.is (EvalN.to (lc1 (xs := row (n + m) (elm T k k)) (enc := eR) (g := fun x => eR (x / elm T k k k)) 7 c_law_solved.nd (IterL.c (it_list (ixO 1 (nm 2) (atI_nat (tab_at hk))))) (blkOk_by (N := n_law_solved) (sc := defScope s_law_solved) (by decide +kernel)) (by rw [row_len]; omega) fun x hx s0 H0 C cl fp => ?_) (map_rowR _ _ fun x => x / elm T k k k))) (nm 2) hl ?_
      · obtain ⟨j, hj, rfl⟩ := row_mem hx
        exact ev_call Go hr rfl (ea_cons (nm 7) (ea_cons (nm 3) ea_nil)) ⟨_, _, rfl, sz1000 (hsz k hk j hj), sz1000 (hsz k hk k (by omega)), hpv, rfl⟩
      rintro _ rfl
      rw [mix_first hk]
      refine x_for PassesOwn.never rfl (it_rangeE (n := n) rfl B.range (Eval.to (ev_callBO call_len_seq rfl B.len (by decide +kernel) (i := 1) rfl rfl (.inr (.inl rfl)) co_len) (by rw [tab_len])) (by omega)) (fun _ i es => ∃ e4 e5, es = [.val (.list (eTab n (n + m) T)), .own (eTab n (n + m) (mixT k i (elm T k))), .val (.int (k : Int)), .val (eR (elm T k k k)), e4, e5, .no, .no, .no]) (fun items p => ⟨_, _, rfl⟩) (fun items p i d es1 hd ⟨e4, e5, he⟩ => ?_) (fun items p es1 ⟨e4, e5, he⟩ => ?_)
      · have p' := p
        unfold Ab.IsL at p'
        subst p' he
        obtain ⟨hi, rfl⟩ := get_rng hd
        have hli : i < (eTab n (n + m) (mixT k i (elm T k))).length := by rw [tab_len]; exact hi
        have mk : mixT k i (elm T k) k = stp k (elm T k) k := by
          unfold mixT
          rw [if_pos (.inl rfl)]
        refine ⟨_, _, tg_name (i := 4) c_law_solved.nd rfl (.inl rfl) (.inl rfl), ?_⟩
        refine x_setIs (i := 5) (d := eR (mixT k i (elm T k) i k)) c_law_solved.nd rfl (.inr rfl) (.inl rfl) (ev_ixL (ixO 1 (nm 4) (atI_nat (tab_at hi))) (nm 2) (at_row' (by omega))) ?_
        refine x_if (Pc := IsB (!decide (i = k) && !decide (mixT k i (elm T k) i k = 0))) (N1 := fun es1 => es1 = [.val (.list (eTab n (n + m) T)), .own (eTab n (n + m) (mixT k (i + 1) (elm T k))), .val (.int (k : Int)), .val (eR (elm T k k k)), .val (.int (i : Int)), .val (eR (mixT k i (elm T k) i k)), .no, .no, .no]) (et_w (ew_and (P1 := IsB (!decide (i = k))) (EvalT.to (et_neI (nm 4) (nm 2)) (by congr 1; exact decide_eq_decide.mpr ⟨fun h => by omega, fun h => by omega⟩)) (fun hne => ew_and1 (P := IsB (!decide (i = k) && !decide (mixT k i (elm T k) i k = 0))) (EvalT.to (et_neI (ev_ixT (nm 5) ev_int rfl) ev_int) ?_)) (fun hne => ?_))) (fun hb => ?_) (fun hb => ?_) (fun es1 h => x_nil ⟨_, _, h⟩)
        · have hne' : (!decide (i = k)) = true := hne.symm
          rw [hne', Bool.true_and, num_zero_iff]
        · have hne' : (!decide (i = k)) = false := hne.symm
          show _ = _
          rw [hne', Bool.false_and]
        · have hb' : (!decide (i = k) && !decide (mixT k i (elm T k) i k = 0)) = true := hb.symm
          have hik : ¬ i = k := by
            intro e
            rw [e] at hb'
            simp at hb'
          have mi : mixT k i (elm T k) i = elm T k i := by
            unfold mixT
            rw [if_neg (by omega)]
          rw [mi]
          have hsk : ∀ j, j < n + m → Sz 1000 1000 (stp k (elm T k) k j) := fun j hj => hsz1 k hk j hj
          refine x_put (i := 1) (P := Is (eLst (row (n + m) (stp k (elm T k) i)))) rfl rfl (.inr (.inl rfl)) (EvalN.is (EvalN.to (lc2 (xs := (List.range (n + m)).map fun j => (elm T k i j, stp k (elm T k) k j)) (e1 := eR) (e2 := eR) (g := fun q => eR (q.1 - elm T k i k * q.2)) 7 8 c_law_solved.nd (IterL.c (it_to (it_zipE (xs := row (n + m) (elm T k i)) (ys := row (n + m) (stp k (elm T k) k)) (e1 := eR) (e3 := eR) rfl B.zip (ixO 1 (nm 4) (atI_nat (tab_at hi))) (ixO 1 (nm 2) (atI_nat (tab_at hk))) (.inl ?_) (.inl ?_)) ?_)) (blkOk_by (N := n_law_solved) (sc := defScope s_law_solved) (by decide +kernel)) (by rw [List.length_map, List.length_range]; omega) fun q hq s0 H0 C cl fp => ?_) ?_)) (nm 4) hli ?_
          · rw [mi]
            rfl
          · rw [mk]
            rfl
          · unfold row
            rw [zip_rng]
          · obtain ⟨j, hj, rfl⟩ := List.mem_map.mp hq
            have hj := List.mem_range.mp hj
            exact ev_call Gi hr rfl (ea_cons (nm 7) (ea_cons (ev_call Gm hr rfl (ea_cons (nm 5) (ea_cons (nm 8) ea_nil)) ⟨_, _, rfl, sz1000 (hsz i hi k (by omega)), sz1000 (hsk j hj), rfl⟩) ea_nil)) ⟨_, _, rfl, sz1000 (hsz i hi j hj), s0_of ((hsz i hi k (by omega)).mul (hsk j hj)), rfl⟩
          · rw [List.map_map, map_row]
            apply List.map_congr_left
            intro j _
            show eR _ = eR _
            congr 1
            show elm T k i j - elm T k i k * stp k (elm T k) k j = stp k (elm T k) i j
            unfold stp
            rw [if_pos rfl, if_neg hik]
          · rintro _ rfl
            refine x_nil ?_
            show [_, Sl.own ((eTab n (n + m) (mixT k i (elm T k))).set i _), _, _, _, _, _, _, _] = _
            rw [mix_set hi hik]
        · have hb' : (!decide (i = k) && !decide (mixT k i (elm T k) i k = 0)) = false := hb.symm
          refine x_nil ?_
          rw [mix_same (T := elm T k) (k := k) (i := i)]
          · rfl
          · by_cases e : i = k
            · exact .inl e
            · right
              have mi : mixT k i (elm T k) i = elm T k i := by
                unfold mixT
                rw [if_neg (by omega)]
              rw [mi] at hb'
              simpa [e] using hb'
      · have p' := p
        unfold Ab.IsL at p'
        subst p' he
        rw [List.length_map, List.length_range, mix_last]
        exact x_nil ⟨_, _, _, _, rfl⟩
    · have p' := p
      unfold Ab.IsL at p'
      subst p' he
      rw [List.length_map, List.length_range]
      refine x_retIs (EvalN.is (lc1 (xs := List.range n) (enc := fun i => eLst (row (n + m) (elm T n i))) (g := fun i => eRow (row m fun j => elm T n i (n + j))) 6 c_law_solved.nd (it_own (i := 1) rfl rfl (.inr (.inl rfl))) (blkOk_by (N := n_law_solved) (sc := defScope s_law_solved) (by decide +kernel)) (by rw [List.length_range]; omega) fun i hi s0 H0 C cl fp => ?_)) rfl
      exact Eval.to (ev_tupOf rfl B.tuple (en_from (n := n) (nm 6) (Eval.to (ev_callBO call_len_seq rfl B.len (by decide +kernel) (i := 1) rfl rfl (by first | exact Or.inl rfl | exact Or.inr (Or.inl rfl) | exact Or.inr (Or.inr rfl)) co_len) (by rw [tab_len])))) (by rw [← List.map_drop, drop_row]; rfl)
end
end Dh

set_option maxHeartbeats 4000000
/-! The law's own worths: rows, gains, lines. -/
namespace Dh
open PySem PySem.Spec PyProof.Rows L2 Ab
theorem cv_of {l : List (Nat × Rat)} (j : Nat) (h : ∀ p ∈ l, Sz 8 8 p.2) : Sz 8 8 (cv l j) := by
  unfold cv
  cases e : l.find? (fun p => decide (p.1 = j)) with
  | none => exact ⟨by decide +kernel, by decide +kernel⟩
  | some p => exact h p (List.mem_of_find?_eq_some e)
theorem cv_none {l : List (Nat × Rat)} {j : Nat} (h : ∀ p ∈ l, p.1 ≠ j) : cv l j = 0 := by
  unfold cv
  have : l.find? (fun p => decide (p.1 = j)) = none := by
    rw [List.find?_eq_none]
    intro p hp
    simpa using h p hp
  rw [this]
  rfl
theorem asc_before {ch : List (Nat × Rat)} (h : (ch.map (·.1)).Pairwise (· < ·)) {t : Nat} (ht : t < ch.length) : ∀ p ∈ ch.take t, p.1 < ch[t].1 := by
  intro p hp
  obtain ⟨i, hi, e⟩ := List.mem_iff_getElem.mp hp
  rw [List.length_take] at hi
  rw [List.getElem_take] at e
  have := List.pairwise_iff_getElem.mp h i t (by rw [List.length_map]; omega) (by rw [List.length_map]; exact ht) (by omega)
  rw [List.getElem_map, List.getElem_map] at this
  rw [← e]
  exact this
theorem cv_take_at {ch : List (Nat × Rat)} (h : (ch.map (·.1)).Pairwise (· < ·)) {t : Nat} (ht : t < ch.length) : cv (ch.take t) ch[t].1 = 0 := cv_none fun p hp => Nat.ne_of_lt (asc_before h ht p hp)
theorem cv_take {ch : List (Nat × Rat)} (h : (ch.map (·.1)).Pairwise (· < ·)) {t : Nat} (ht : t < ch.length) (j : Nat) : cv (ch.take (t + 1)) j = if j = ch[t].1 then ch[t].2 else cv (ch.take t) j := by
  rw [List.take_add_one, List.getElem?_eq_getElem ht]
  by_cases e : j = ch[t].1
  · rw [if_pos e]
    unfold cv
    rw [List.find?_append]
    have : (ch.take t).find? (fun p => decide (p.1 = j)) = none := by
      rw [List.find?_eq_none]
      intro p hp
      have := asc_before h ht p hp
      simp
      omega
    rw [this]
    show ((Option.none.or ([ch[t]].find? _)).map _).getD 0 = _
    rw [Option.none_or, List.find?_cons_of_pos (by simp [e])]
    rfl
  · rw [if_neg e]
    unfold cv
    rw [List.find?_append]
    show (((List.find? _ _).or ([ch[t]].find? _)).map _).getD 0 = _
    rw [List.find?_cons_of_neg (by simp; omega), List.find?_nil, Option.or_none]
theorem row_set {n k : Nat} {f : Nat → Rat} {v : Rat} (hk : k < n) : ((row n f).map eR).set k (eR v) = (row n fun j => if j = k then v else f j).map eR := by
  rw [map_row, map_row]
  apply List.ext_getElem?
  intro i
  rw [List.getElem?_set]
  by_cases hi : i < n
  · by_cases e : k = i
    · subst e
      rw [if_pos rfl, if_pos (by rw [List.length_map, List.length_range]; exact hk), List.getElem?_map, List.getElem?_range hi]
      show _ = some (eR (if k = k then v else f k))
      rw [if_pos rfl]
    · rw [if_neg e, List.getElem?_map, List.getElem?_map, List.getElem?_range hi]
      show some (eR (f i)) = some (eR (if i = k then v else f i))
      rw [if_neg (fun z => e z.symm)]
  · have e : (List.range n)[i]? = none := by simp; omega
    rw [if_neg (by omega), List.getElem?_map, List.getElem?_map, e]
    rfl
theorem rep_enc (n : Nat) : (List.replicate n [eR 0]).flatten = (row n fun _ => 0).map eR := by
  rw [← rep_row, List.map_replicate]
  induction n with
  | zero => rfl
  | succ n ih =>
    rw [List.replicate_succ, List.replicate_succ, List.flatten_cons, ih]
    rfl
theorem odds_enc (a m : Nat) : eRow (plainOdds (a : Int) m) = .tuple ((List.range m).map fun b => eR (if b = a then 1 else 0)) := by
  rw [odds_rng]
  unfold eRow
  rw [List.map_map]
  rfl
def fB (ch : List (Nat × Rat)) (a b j : Nat) : Rat := if a < b then cv ch j else 0
def fC (ch : List (Nat × Rat)) (a b t j : Nat) : Rat := if b = a then cv (ch.take t) j else fB ch a b j

section
variable {P : Program} {w : World} {K : PySem.W.Frag} {mg : Str → Option Value} {base : Heap}
theorem it_plan {X : Cx} {es : List Sl} {e e2 : Expr} {pos p tpos : Pos} {elts : List Expr} {kk : Nat} {h : Hs} {c : List Nat} (hg : Gl X "zip") (hm : X.mg "zip" = none) (ha : Eval X e es (Is (.tuple (h.st.map eSt)))) (hb : Eval X e2 es (Is (eStl h c)))
    (hs : starEach [e, e2] X.env = (false, eval e X.env) :: starEach [e2] X.env := by rfl) (hs2 : starEach [e2] X.env = (false, eval e2 X.env) :: starEach [] X.env := by rfl) (hpl : (backTo pos (starEach [e2] X.env)).any (·.1) = false := by rfl) :
    IterL X (.Tuple elts kk tpos) (.Call (.Name "zip" p) [e, e2] [] pos) es (Ab.IsL ((List.range h.n).map fun i => .tuple [eSt (stand h i), eRow (plainOdds (c.getD i 0 : Nat) (stand h i).length)])) :=
  it_to (it_zipE (xs := List.range h.n) (ys := List.range h.n) (e1 := fun i => eSt (stand h i)) (e3 := fun i => eRow (plainOdds (c.getD i 0 : Nat) (stand h i).length)) hg hm ha hb (.inr (congrArg PyData.tuple (st_enc h))) (.inr rfl) hs hs2 hpl) (by rw [zip_same, List.map_map]; rfl)
theorem it_odd {X : Cx} {es : List Sl} {e e2 : Expr} {pos p tpos : Pos} {elts : List Expr} {kk : Nat} {h : Hs} {i a : Nat} (hg : Gl X "zip") (hm : X.mg "zip" = none) (ha : Eval X e es (Is (eSt (stand h i)))) (hb : Eval X e2 es (Is (eRow (plainOdds (a : Int) (stand h i).length))))
    (hs : starEach [e, e2] X.env = (false, eval e X.env) :: starEach [e2] X.env := by rfl) (hs2 : starEach [e2] X.env = (false, eval e2 X.env) :: starEach [] X.env := by rfl) (hpl : (backTo pos (starEach [e2] X.env)).any (·.1) = false := by rfl) :
    IterL X (.Tuple elts kk tpos) (.Call (.Name "zip" p) [e, e2] [] pos) es (Ab.IsL ((List.range (stand h i).length).map fun b => .tuple [eDd (deed h i b), eR (if b = a then 1 else 0)])) :=
  it_to (it_zipE (xs := List.range (stand h i).length) (ys := List.range (stand h i).length) (e1 := fun b => eDd (deed h i b)) (e3 := fun b => eR (if b = a then 1 else 0)) hg hm ha hb (.inr (congrArg PyData.tuple (dd_enc h i))) (.inr (odds_enc a _)) hs hs2 hpl) (by rw [zip_same, List.map_map]; rfl)
def R_lmoves (ds : List PyData) (PP : PyData → Prop) : Prop := ∃ (h : Hs) (c : List Nat), ds = [eHs h, eStl h c] ∧ HsOk h ∧ ChoOk h c ∧ PP = Is (.list ((List.range h.n).map fun i => eLst (row h.n (mvs h c i))))
theorem ok_law_moves {f : Addr} {fd : FuncData} (B : Bt K mg) (F : Fun K "_law_moves" "_law_moves" s_law_moves f fd) (Gp : KP P w K mg base "_law_plus" 2 ["_law_x", "_law_y"] R_plus) (Gm : KP P w K mg base "_law_times" 2 ["_law_x", "_law_y"] R_times) : FnOk P w K mg base CX0 3 f fd ["_law_world_here", "_law_plan"] (spP K R_lmoves) := by
  refine fn_pure (N := n_law_moves) F c_law_moves (fun ds PP h => ?_) (fun cdv A outer s H E hr ds PP h => ?_)
  · obtain ⟨h, c, rfl, _⟩ := h
    rfl
  · obtain ⟨h, c, rfl, ok, hc, rfl⟩ := h
    have n4 := ok.n4
    refine x_ownIs (ds := []) (i := 2) c_law_moves.nd rfl (.inl rfl) (.inl rfl) (el_lst ea_nil) ?_
    refine x_for PassesOwn.never rfl (it_plan rfl B.zip (ev_ixT (nm 0) ev_int rfl) (nm 1)) (fun _ i es => ∃ e3 e4 e5 e6 e7 e8 e9, es = [.val (eHs h), .val (eStl h c), .own ((List.range i).map fun i => eLst (row h.n (mvs h c i))), e3, e4, e5, e6, e7, e8, e9]) (fun items p => ⟨_, _, _, _, _, _, _, rfl⟩) (fun items p i d es1 hd ⟨e3, e4, e5, e6, e7, e8, e9, he⟩ => ?_) (fun items p es1 ⟨e3, e4, e5, e6, e7, e8, e9, he⟩ => ?_)
    · have p' := p
      unfold Ab.IsL at p'
      subst p' he
      obtain ⟨hi, rfl⟩ := get_rng hd
      have hlt := hc.lt i hi
      refine ⟨_, _, tg_pair (i := 3) (j := 4) rfl c_law_moves.nd rfl (.inl rfl) (.inl rfl) rfl (.inl rfl) (.inl rfl), ?_⟩
      refine x_ownIs (ds := (row h.n (fB (deed h i (c.getD i 0)).ch (c.getD i 0) 0)).map eR) (i := 5) c_law_moves.nd rfl (.inl rfl) (.inl rfl) (EvalN.to (en_rep (n := h.n) (EvalN.is (el_lst (ea_cons (ev_tup (ea_cons ev_int (ea_cons ev_int ea_nil))) ea_nil))) (Eval.to (ev_lenT rfl B.len (ev_ixT (nm 0) ev_int rfl)) (by rw [List.length_map]; rfl)) (by decide) (by omega)) ?_) ?_
      · refine (rep_enc h.n).trans ?_
        congr 1
      refine x_for PassesOwn.never rfl (it_odd rfl B.zip (nm 3) (nm 4)) (fun _ b es => ∃ e6 e7 e8 e9, es = [.val (eHs h), .val (eStl h c), .own ((List.range i).map fun i => eLst (row h.n (mvs h c i))), .val (eSt (stand h i)), .val (eRow (plainOdds (c.getD i 0 : Nat) (stand h i).length)), .own ((row h.n (fB (deed h i (c.getD i 0)).ch (c.getD i 0) b)).map eR), e6, e7, e8, e9]) (fun items p => ⟨_, _, _, _, rfl⟩) (fun items p b d es1 hd ⟨e6, e7, e8, e9, he⟩ => ?_) (fun items p es1 ⟨e6, e7, e8, e9, he⟩ => ?_)
      · have p' := p
        unfold Ab.IsL at p'
        subst p' he
        obtain ⟨hb, rfl⟩ := get_rng hd
        have hch := (ok.deed hi hb).ch
        have hcha := (ok.deed hi hlt).ch
        refine ⟨_, _, tg_pair (i := 6) (j := 7) rfl c_law_moves.nd rfl (.inl rfl) (.inl rfl) rfl (.inl rfl) (.inl rfl), ?_⟩
        refine x_for PassesOwn.never rfl (it_tup (xs := (deed h i b).ch.map eCh) (ev_ixT (nm 6) ev_int rfl)) (fun _ t es => ∃ e8 e9, es = [.val (eHs h), .val (eStl h c), .own ((List.range i).map fun i => eLst (row h.n (mvs h c i))), .val (eSt (stand h i)), .val (eRow (plainOdds (c.getD i 0 : Nat) (stand h i).length)), .own ((row h.n (if b = c.getD i 0 then cv ((deed h i b).ch.take t) else fB (deed h i (c.getD i 0)).ch (c.getD i 0) b)).map eR), .val (eDd (deed h i b)), .val (eR (if b = c.getD i 0 then 1 else 0)), e8, e9]) (fun items p => ?_) (fun items p t d es1 hd ⟨e8, e9, he⟩ => ?_) (fun items p es1 ⟨e8, e9, he⟩ => ?_)
        · refine ⟨e8, e9, ?_⟩
          have e : (if b = c.getD i 0 then cv ((deed h i b).ch.take 0) else fB (deed h i (c.getD i 0)).ch (c.getD i 0) b) = fB (deed h i (c.getD i 0)).ch (c.getD i 0) b := by
            by_cases z : b = c.getD i 0
            · rw [if_pos z]
              funext j
              unfold fB
              rw [if_neg (by omega)]
              rfl
            · rw [if_neg z]
          rw [e]
          rfl
        · have p' := p
          unfold Ab.IsL at p'
          subst p' he
          obtain ⟨ht, rfl⟩ := get_of_map hd
          have hk := hch.key _ (List.getElem_mem ht)
          have hqs := ch_sz hch _ (List.getElem_mem ht)
          refine ⟨_, _, tg_pair (i := 8) (j := 9) (d1 := .int ((deed h i b).ch[t].1 : Int)) (d2 := eR (deed h i b).ch[t].2) rfl c_law_moves.nd rfl (.inl rfl) (.inl rfl) rfl (.inl rfl) (.inl rfl), ?_⟩
          have hs8 : ∀ j, Sz 8 8 ((if b = c.getD i 0 then cv ((deed h i b).ch.take t) else fB (deed h i (c.getD i 0)).ch (c.getD i 0) b) j) := fun j => by
            split
            · exact cv_of j fun p hp => ch_sz hch p (List.mem_of_mem_take hp)
            · unfold fB
              split
              · exact cv_sz hcha j
              · exact ⟨by decide +kernel, by decide +kernel⟩
          have hsm : S0 ((if b = c.getD i 0 then 1 else 0 : Rat) * (deed h i b).ch[t].2) := by
            split
            · rw [Rat.one_mul]
              exact s0_of hqs
            · rw [Rat.zero_mul]
              exact z0
          refine x_put (i := 5) (P := Is (eR ((if b = c.getD i 0 then cv ((deed h i b).ch.take t) else fB (deed h i (c.getD i 0)).ch (c.getD i 0) b) (deed h i b).ch[t].1 + (if b = c.getD i 0 then 1 else 0 : Rat) * (deed h i b).ch[t].2))) rfl rfl (.inl rfl) (ev_call Gp hr rfl (ea_cons (ixO 5 (nm 8) (at_row' hk)) (ea_cons (ev_call Gm hr rfl (ea_cons (nm 7) (ea_cons (nm 9) ea_nil)) ⟨_, _, rfl, s01, s0_of hqs, rfl⟩) ea_nil)) ⟨_, _, rfl, s0_of (hs8 _), hsm, rfl⟩) (nm 8) (by rw [List.length_map, row_len]; exact hk) ?_
          rintro _ rfl
          refine x_nil ⟨.val (.int ((deed h i b).ch[t].1 : Int)), .val (eR (deed h i b).ch[t].2), ?_⟩
          show [_, _, _, _, _, Sl.own (((row h.n _).map eR).set (deed h i b).ch[t].1 (eR _)), _, _, _, _] = _
          rw [row_set hk]
          have e : ∀ j, j < h.n → (if j = (deed h i b).ch[t].1 then (if b = c.getD i 0 then cv ((deed h i b).ch.take t) else fB (deed h i (c.getD i 0)).ch (c.getD i 0) b) (deed h i b).ch[t].1 + (if b = c.getD i 0 then 1 else 0 : Rat) * (deed h i b).ch[t].2 else (if b = c.getD i 0 then cv ((deed h i b).ch.take t) else fB (deed h i (c.getD i 0)).ch (c.getD i 0) b) j) = (if b = c.getD i 0 then cv ((deed h i b).ch.take (t + 1)) else fB (deed h i (c.getD i 0)).ch (c.getD i 0) b) j := fun j _ => by
            by_cases z : b = c.getD i 0
            · rw [if_pos z, if_pos z, if_pos z, cv_take hch.asc ht, cv_take_at hch.asc ht]
              by_cases z2 : j = (deed h i b).ch[t].1
              · rw [if_pos z2, if_pos z2]
                grind
              · rw [if_neg z2, if_neg z2]
            · rw [if_neg z, if_neg z, if_neg z]
              by_cases z2 : j = (deed h i b).ch[t].1
              · rw [if_pos z2, z2]
                grind
              · rw [if_neg z2]
          rw [row_congr e]
        · have p' := p
          unfold Ab.IsL at p'
          subst p' he
          refine x_nil ⟨.val (eDd (deed h i b)), .val (eR (if b = c.getD i 0 then 1 else 0)), e8, e9, ?_⟩
          · have e : (if b = c.getD i 0 then cv ((deed h i b).ch.take ((deed h i b).ch.map eCh).length) else fB (deed h i (c.getD i 0)).ch (c.getD i 0) b) = fB (deed h i (c.getD i 0)).ch (c.getD i 0) (b + 1) := by
              rw [List.length_map, List.take_length]
              funext j
              unfold fB
              by_cases z : b = c.getD i 0
              · rw [if_pos z, if_pos (by omega), z]
              · rw [if_neg z]
                by_cases z2 : c.getD i 0 < b
                · rw [if_pos z2, if_pos (by omega)]
                · rw [if_neg z2, if_neg (by omega)]
            rw [e]
      · have p' := p
        unfold Ab.IsL at p'
        subst p' he
        refine x_frz 5 rfl (x_app (i := 2) (P := Is (eLst (row h.n (mvs h c i)))) rfl rfl (.inl rfl) (Eval.to (nm 5) ?_) (by rw [List.length_map, List.length_range]; omega) ?_)
        · rw [List.length_map, List.length_range]
          unfold eLst
          congr 2
          refine row_congr fun j _ => ?_
          unfold fB mvs
          rw [if_pos hlt]
        · rintro _ rfl
          refine x_nil ?_
          rw [List.range_succ, List.map_append]
          exact ⟨_, _, _, _, _, _, _, rfl⟩
    · have p' := p
      unfold Ab.IsL at p'
      subst p' he
      rw [List.length_map, List.length_range]
      exact x_frz 2 rfl (x_retIs (nm 2) rfl)
end
end Dh

set_option maxHeartbeats 4000000
/-! The law's own worths: gains, lines, heights. -/
namespace Dh
open PySem PySem.Spec PyProof.Rows L2 Ab
theorem dress_n (h : Hs) (wt : List Rat) : (dress h wt).n = h.n := by
  unfold dress Hs.n
  rw [List.length_map]
theorem dress_stand (h : Hs) (wt : List Rat) (i : Nat) : (stand (dress h wt) i).length = (stand h i).length := by
  unfold stand dress
  rw [List.getD_eq_getElem?_getD, List.getD_eq_getElem?_getD, List.getElem?_map]
  cases h.st[i]? with
  | none => rfl
  | some s =>
    show (s.map _).length = s.length
    rw [List.length_map]
theorem dress_stl (h : Hs) (wt : List Rat) (c : List Nat) : eStl (dress h wt) c = eStl h c := by
  unfold eStl
  rw [dress_n]
  congr 1
  apply List.map_congr_left
  intro i _
  rw [dress_stand]
theorem dress_cho {h : Hs} {wt : List Rat} {c : List Nat} (hc : ChoOk h c) : ChoOk (dress h wt) c := ⟨by rw [dress_n]; exact hc.len, fun i hi => by rw [dress_n] at hi; rw [dress_stand]; exact hc.lt i hi⟩
theorem cho_dress {h : Hs} {wt : List Rat} {c : List Nat} (hc : ChoOk (dress h wt) c) : ChoOk h c := ⟨by rw [← dress_n h wt]; exact hc.len, fun i hi => by
  have := hc.lt i (by rw [dress_n]; exact hi)
  rw [dress_stand] at this
  exact this⟩
def gB (ga : List Rat) (a b p : Nat) : Rat := if a < b then ga.getD p 0 else 0
section
variable {P : Program} {w : World} {K : PySem.W.Frag} {mg : Str → Option Value} {base : Heap}
def R_lgot (ds : List PyData) (PP : PyData → Prop) : Prop := ∃ (h : Hs) (c : List Nat), ds = [eHs h, eStl h c] ∧ HsOk h ∧ ChoOk h c ∧ PP = Is (.list ((List.range h.n).map fun i => eLst (row h.k (gvs h c i))))
theorem ok_law_got {f : Addr} {fd : FuncData} (B : Bt K mg) (F : Fun K "_law_got" "_law_got" s_law_got f fd) (Gp : KP P w K mg base "_law_plus" 2 ["_law_x", "_law_y"] R_plus) (Gm : KP P w K mg base "_law_times" 2 ["_law_x", "_law_y"] R_times) : FnOk P w K mg base CX0 3 f fd ["_law_world_here", "_law_plan"] (spP K R_lgot) := by
  refine fn_pure (N := n_law_got) F c_law_got (fun ds PP h => ?_) (fun cdv A outer s H E hr ds PP h => ?_)
  · obtain ⟨h, c, rfl, _⟩ := h
    rfl
  · obtain ⟨h, c, rfl, ok, hc, rfl⟩ := h
    have n4 := ok.n4
    have k4 := ok.k4
    refine x_ownIs (ds := []) (i := 2) c_law_got.nd rfl (.inl rfl) (.inl rfl) (el_lst ea_nil) ?_
    refine x_for PassesOwn.never rfl (it_plan rfl B.zip (ev_ixT (nm 0) ev_int rfl) (nm 1)) (fun _ i es => ∃ e3 e4 e5 e6 e7, es = [.val (eHs h), .val (eStl h c), .own ((List.range i).map fun i => eLst (row h.k (gvs h c i))), e3, e4, e5, e6, e7, .no, .no]) (fun items p => ⟨_, _, _, _, _, rfl⟩) (fun items p i d es1 hd ⟨e3, e4, e5, e6, e7, he⟩ => ?_) (fun items p es1 ⟨e3, e4, e5, e6, e7, he⟩ => ?_)
    · have p' := p
      unfold Ab.IsL at p'
      subst p' he
      obtain ⟨hi, rfl⟩ := get_rng hd
      have hlt := hc.lt i hi
      have ga := ok.deed hi hlt
      refine ⟨_, _, tg_pair (i := 3) (j := 4) rfl c_law_got.nd rfl (.inl rfl) (.inl rfl) rfl (.inl rfl) (.inl rfl), ?_⟩
      refine x_setIs (d := eLst (row h.k (gB (deed h i (c.getD i 0)).ga (c.getD i 0) 0))) (i := 5) c_law_got.nd rfl (.inl rfl) (.inl rfl) (EvalN.is (EvalN.to (en_rep (n := h.k) (EvalN.is (el_lst (ea_cons (ev_tup (ea_cons ev_int (ea_cons ev_int ea_nil))) ea_nil))) (ev_ixT (nm 0) ev_int rfl) (by decide) (by omega)) ?_)) ?_
      · refine (rep_enc h.k).trans ?_
        congr 1
      refine x_for PassesOwn.never rfl (it_odd rfl B.zip (nm 3) (nm 4)) (fun _ b es => ∃ e6 e7, es = [.val (eHs h), .val (eStl h c), .own ((List.range i).map fun i => eLst (row h.k (gvs h c i))), .val (eSt (stand h i)), .val (eRow (plainOdds (c.getD i 0 : Nat) (stand h i).length)), .val (eLst (row h.k (gB (deed h i (c.getD i 0)).ga (c.getD i 0) b))), e6, e7, .no, .no]) (fun items p => ⟨_, _, rfl⟩) (fun items p b d es1 hd ⟨e6, e7, he⟩ => ?_) (fun items p es1 ⟨e6, e7, he⟩ => ?_)
      · have p' := p
        unfold Ab.IsL at p'
        subst p' he
        obtain ⟨hb, rfl⟩ := get_rng hd
        have gb := ok.deed hi hb
        refine ⟨_, _, tg_pair (i := 6) (j := 7) rfl c_law_got.nd rfl (.inl rfl) (.inl rfl) rfl (.inr rfl) (.inl rfl), ?_⟩
        refine x_lc2 (xs := (List.range h.k).map fun p => (gB (deed h i (c.getD i 0)).ga (c.getD i 0) b p, (deed h i b).ga.getD p 0)) (e1 := eR) (e2 := eR) (g := fun q => eR (q.1 + (if b = c.getD i 0 then 1 else 0) * q.2)) 5 8 9 c_law_got.nd (IterL.c (it_to (it_zipE (xs := row h.k (gB (deed h i (c.getD i 0)).ga (c.getD i 0) b)) (ys := row h.k fun p => (deed h i b).ga.getD p 0) (e1 := eR) (e3 := eR) rfl B.zip (nm 5) (ev_ixT (nm 6) ev_int rfl) (.inl rfl) (.inr ?_)) ?_)) (blkOk_by (N := n_law_got) (sc := defScope s_law_got) (by decide +kernel)) (by rw [List.length_map, List.length_range]; omega) (fun q hq s0 H0 C cl fp => ?_) ?_
        · conv => lhs; rw [row_of gb.gl]
          rfl
        · rw [zip_row]
        · obtain ⟨p, hp, rfl⟩ := List.mem_map.mp hq
          have hp := List.mem_range.mp hp
          have s1 : S0 (gB (deed h i (c.getD i 0)).ga (c.getD i 0) b p) := by
            unfold gB
            split
            · exact s0_of (gd_sz ga p hp)
            · exact z0
          have s2 : S0 ((if b = c.getD i 0 then 1 else 0 : Rat) * (deed h i b).ga.getD p 0) := by
            split
            · rw [Rat.one_mul]
              exact s0_of (gd_sz gb p hp)
            · rw [Rat.zero_mul]
              exact z0
          exact ev_call Gp hr rfl (ea_cons (nm 8) (ea_cons (ev_call Gm hr rfl (ea_cons (nm 7) (ea_cons (nm 9) ea_nil)) ⟨_, _, rfl, s01, s0_of (gd_sz gb p hp), rfl⟩) ea_nil)) ⟨_, _, rfl, s1, s2, rfl⟩
        · refine x_frz 5 rfl (x_nil ⟨.val (eDd (deed h i b)), .val (eR (if b = c.getD i 0 then 1 else 0)), ?_⟩)
          have e : (((List.range h.k).map fun p => (gB (deed h i (c.getD i 0)).ga (c.getD i 0) b p, (deed h i b).ga.getD p 0)).map fun q : Rat × Rat => eR (q.1 + (if b = c.getD i 0 then 1 else 0) * q.2)) = (row h.k (gB (deed h i (c.getD i 0)).ga (c.getD i 0) (b + 1))).map eR := by
            rw [List.map_map, map_row]
            apply List.map_congr_left
            intro p _
            show eR _ = eR _
            congr 1
            show gB _ _ b p + _ * _ = _
            unfold gB
            by_cases z : b = c.getD i 0
            · rw [if_pos z, if_neg (by omega), if_pos (by omega), z]
              grind
            · rw [if_neg z]
              by_cases z2 : c.getD i 0 < b
              · rw [if_pos z2, if_pos (by omega)]
                grind
              · rw [if_neg z2, if_neg (by omega)]
                grind
          show [_, _, _, _, _, Sl.val (.list (((List.range h.k).map fun p => (gB (deed h i (c.getD i 0)).ga (c.getD i 0) b p, (deed h i b).ga.getD p 0)).map fun q : Rat × Rat => eR (q.1 + (if b = c.getD i 0 then 1 else 0) * q.2))), _, _, _, _] = _
          rw [e]
          rfl
      · have p' := p
        unfold Ab.IsL at p'
        subst p' he
        refine x_app (i := 2) (P := Is (eLst (row h.k (gvs h c i)))) rfl rfl (.inl rfl) (Eval.to (nm 5) ?_) (by rw [List.length_map, List.length_range]; omega) ?_
        · rw [List.length_map, List.length_range]
          congr 1
          refine row_congr fun p _ => ?_
          unfold gB gvs
          rw [if_pos hlt]
        · rintro _ rfl
          refine x_nil ?_
          rw [List.range_succ, List.map_append]
          exact ⟨_, _, _, _, _, rfl⟩
    · have p' := p
      unfold Ab.IsL at p'
      subst p' he
      rw [List.length_map, List.length_range]
      exact x_frz 2 rfl (x_retIs (nm 2) rfl)
theorem ok_law_worths {f : Addr} {fd : FuncData} (B : Bt K mg) (F : Fun K "_law_worths" "_law_worths" s_law_worths f fd) (Go : KP P w K mg base "_law_moves" 3 ["_law_world_here", "_law_plan"] R_lmoves) (Gg : KP P w K mg base "_law_got" 3 ["_law_world_here", "_law_plan"] R_lgot) (Gs : KP P w K mg base "_law_solved" 3 ["_law_lines"] R_lsolved) (Gi : KP P w K mg base "_law_minus" 2 ["_law_x", "_law_y"] R_minus) (Gm : KP P w K mg base "_law_times" 2 ["_law_x", "_law_y"] R_times) : FnOk P w K mg base CX0 4 f fd ["_law_world_here", "_law_plan"] (spP K R_worths_by) := by
  refine fn_pure (N := n_law_worths) F c_law_worths (fun ds PP h => ?_) (fun cdv A outer s H E hr ds PP h => ?_)
  · obtain ⟨h, c, rfl, _⟩ := h
    rfl
  · obtain ⟨h, c, rfl, ok, hc, rfl⟩ := h
    have n4 := ok.n4
    have k4 := ok.k4
    refine x_par3N (i := 2) (j := 3) (l := 4) (P1 := Is (.list ((List.range h.n).map fun i => eLst (row h.n (mvs h c i))))) (P2 := Is (.list ((List.range h.n).map fun i => eLst (row h.k (gvs h c i))))) (PN := Ab.IsL []) c_law_worths.nd (by decide) (by decide) (by decide) (ev_call Go hr rfl (ea_cons (nm 0) (ea_cons (nm 1) ea_nil)) ⟨h, c, rfl, ok, hc, rfl⟩) (ev_call Gg hr rfl (ea_cons (nm 0) (ea_cons (nm 1) ea_nil)) ⟨h, c, rfl, ok, hc, rfl⟩) (el_lst ea_nil) ?_
    rintro _ _ _ rfl rfl rfl
    refine x_for PassesOwn.never rfl (it_rangeE (n := h.n) rfl B.range (Eval.to (ev_lenL rfl B.len (nm 2)) (by rw [List.length_map, List.length_range])) (by omega)) (fun _ i es => ∃ e5 e6, es = [.val (eHs h), .val (eStl h c), .val (.list ((List.range h.n).map fun i => eLst (row h.n (mvs h c i)))), .val (.list ((List.range h.n).map fun i => eLst (row h.k (gvs h c i)))), .own ((List.range i).map fun i => eLst (row (h.n + h.k) (tabl h c i))), e5, e6, .no, .no]) (fun items p => ⟨_, _, rfl⟩) (fun items p i d es1 hd ⟨e5, e6, he⟩ => ?_) (fun items p es1 ⟨e5, e6, he⟩ => ?_)
    · have p' := p
      unfold Ab.IsL at p'
      subst p' he
      obtain ⟨hi, rfl⟩ := get_rng hd
      have hmz : ∀ j, Sz 8 8 (mvs h c i j) := fun j => cv_sz (ok.deed hi (hc.lt i hi)).ch j
      refine ⟨_, _, tg_name (i := 5) c_law_worths.nd rfl (.inr rfl) (.inl rfl), ?_⟩
      refine x_setIs (i := 6) (d := eLst (row h.n fun j => h.sh * mvs h c i j)) c_law_worths.nd rfl (.inr rfl) (.inl rfl) (EvalN.is (EvalN.to (lc1 (xs := row h.n (mvs h c i)) (enc := eR) (g := fun x => eR (h.sh * x)) 7 c_law_worths.nd (IterL.c (it_list (ev_ixL (nm 2) (nm 5) (at_map hi)))) (blkOk_by (N := n_law_worths) (sc := defScope s_law_worths) (by decide +kernel)) (by rw [row_len]; omega) fun x hx s0 H0 C cl fp => ?_) (map_rowR _ _ fun x => h.sh * x))) ?_
      · obtain ⟨j, hj, rfl⟩ := row_mem hx
        exact ev_call (Gm.mono (by decide : 2 ≤ 3)) hr rfl (ea_cons (ev_ixT (nm 0) ev_int rfl) (ea_cons (nm 7) ea_nil)) ⟨_, _, rfl, s0_of (sh_sz ok), s0_of (hmz j), rfl⟩
      refine x_setIs (i := 6) (d := eLst (row h.n (tabl h c i))) c_law_worths.nd rfl (.inr rfl) (.inl rfl) (EvalN.is (EvalN.to (ds' := (row h.n (tabl h c i)).map eR) (lc1 (xs := List.range h.n) (enc := fun (j : Nat) => .int (j : Int)) (g := fun j => eR ((if j = i then 1 else 0) - h.sh * mvs h c i j)) 8 c_law_worths.nd (IterL.c (it_rangeE (n := h.n) rfl B.range (Eval.to (ev_lenL rfl B.len (nm 6)) (by rw [List.length_map, row_len])) (by omega))) (blkOk_by (N := n_law_worths) (sc := defScope s_law_worths) (by decide +kernel)) (by rw [List.length_range]; omega) fun j hj s0 H0 C cl fp => ?_) ?_)) ?_
      · have hj := List.mem_range.mp hj
        refine ev_call (Gi.mono (by decide : 2 ≤ 3)) hr rfl (ea_cons (Eval.to (ev_tup (ea_cons (d := .int (if j = i then 1 else 0)) (ev_if (et_eqI (nm 5) (nm 8)) (fun h => ?_) (fun h => ?_)) (ea_cons ev_int ea_nil))) (eR_pair _)) (ea_cons (ev_ixL (nm 6) (nm 8) (at_row' hj)) ea_nil)) ⟨_, _, rfl, s01, s0_of ((sh_sz ok).mul (hmz j)), rfl⟩
        · have e : j = i := by
            have := of_decide_eq_true h.symm
            omega
          rw [if_pos e]
          exact ev_int
        · have e : ¬ j = i := fun e => of_decide_eq_false h.symm (by rw [e])
          rw [if_neg e]
          exact ev_int
      · rw [map_row]
        apply List.map_congr_left
        intro j hj
        unfold tabl aug
        rw [if_pos (List.mem_range.mp hj)]
      refine x_app (i := 4) (P := Is (eLst (row (h.n + h.k) (tabl h c i)))) rfl rfl (.inl rfl) (EvalN.is (EvalN.to (en_cat (xs := (row h.n (tabl h c i)).map eR) (ys := (row h.k (gvs h c i)).map eR) (nm 6) (ev_ixL (nm 3) (nm 5) (at_map hi)) (by rw [List.length_map, List.length_map, row_len, row_len]; omega)) ?_)) (by rw [List.length_map, List.length_range]; omega) ?_
      · rw [row_app, List.map_append]
        congr 2
        refine row_congr fun p _ => ?_
        unfold tabl aug
        rw [if_neg (by omega), Nat.add_sub_cancel_left]
      · rintro _ rfl
        refine x_nil ?_
        rw [List.range_succ, List.map_append]
        exact ⟨_, _, rfl⟩
    · have p' := p
      unfold Ab.IsL at p'
      subst p' he
      rw [List.length_map, List.length_range]
      exact x_frz 4 rfl (x_retIs (ev_callTy call_tuple_of rfl B.tuple (by decide +kernel) (ea_cons (ev_call Gs hr rfl (ea_cons (nm 4) ea_nil) ⟨h.n, h.k, tabl h c, rfl, elim_ok ok hc, rfl⟩) ea_nil) (by rintro _ rfl; exact cd_tupL) (by decide) (by decide)) rfl)
theorem ok_law_dressed {f : Addr} {fd : FuncData} (B : Bt K mg) (F : Fun K "_law_dressed" "_law_dressed" s_law_dressed f fd) (Gd : KP P w K mg base "_law_dot" 3 ["_law_one", "_law_two"] R_dot) : FnOk P w K mg base CX0 4 f fd ["_law_world_here", "_law_by"] (spP K R_weighted_by) := by
  refine fn_pure (N := n_law_dressed) F c_law_dressed (fun ds PP h => ?_) (fun cdv A outer s H E hr ds PP h => ?_)
  · obtain ⟨h, wt, rfl, _⟩ := h
    rfl
  · obtain ⟨h, wt, rfl, ok, ow, rfl⟩ := h
    have n4 : h.st.length ≤ 4 := ok.n4
    refine x_ownIs (ds := []) (i := 2) c_law_dressed.nd rfl (.inl rfl) (.inl rfl) (el_lst ea_nil) ?_
    refine x_for PassesOwn.never rfl (it_tup (xs := h.st.map eSt) (ev_ixT (nm 0) ev_int rfl)) (fun _ i es => ∃ e3, es = [.val (eHs h), .val (eRow wt), .own ((h.st.take i).map fun s => eSt (s.map fun d => ⟨d.ch, [dotR wt d.ga]⟩)), e3, .no]) (fun items p => ⟨_, rfl⟩) (fun items p i d es1 hd ⟨e3, he⟩ => ?_) (fun items p es1 ⟨e3, he⟩ => ?_)
    · have p' := p
      unfold Ab.IsL at p'
      subst p' he
      obtain ⟨hi, rfl⟩ := get_of_map hd
      have hsd := List.getElem_mem hi
      have m4 := (ok.s1 _ hsd).2.1
      refine ⟨_, _, tg_name (i := 3) c_law_dressed.nd rfl (.inl rfl) (.inl rfl), ?_⟩
      refine x_app (i := 2) (P := Is (eSt (h.st[i].map fun d => ⟨d.ch, [dotR wt d.ga]⟩))) rfl rfl (.inl rfl) (Eval.to (ev_tupOf rfl B.tuple (lc1 (xs := h.st[i]) (enc := eDd) (g := fun d => .tuple [eChs d.ch, .tuple [eR (dotR wt d.ga)]]) 4 c_law_dressed.nd (IterL.c (it_tup (nm 3))) (blkOk_by (N := n_law_dressed) (sc := defScope s_law_dressed) (by decide +kernel)) (by omega) fun d hd s0 H0 C cl fp => ?_)) ?_) (by rw [List.length_map, List.length_take]; omega) ?_
      · exact ev_tup (ea_cons (ev_ixT (nm 4) ev_int rfl) (ea_cons (ev_tup (ea_cons (ev_call Gd hr rfl (ea_cons (nm 1) (ea_cons (ev_ixT (nm 4) ev_int rfl) ea_nil)) ⟨_, _, rfl, (ow.dot _ hsd d hd).1, rfl⟩) ea_nil)) ea_nil))
      · unfold eSt
        rw [List.map_map]
        rfl
      · rintro _ rfl
        refine x_nil ?_
        rw [List.take_add_one, List.getElem?_eq_getElem hi, List.map_append]
        exact ⟨_, rfl⟩
    · have p' := p
      unfold Ab.IsL at p'
      subst p' he
      rw [List.length_map, List.take_length]
      refine x_retIs (ev_tup (ea_cons (ev_ixT (nm 0) ev_int rfl) (ea_cons ev_int (ea_cons (ev_callTyO call_tuple_of rfl B.tuple (by decide +kernel) (i := 2) rfl rfl (.inl rfl) co_tup) ea_nil)))) ?_
      show _ = _
      unfold eHs dress
      rw [List.map_map]
      rfl
theorem ok_law_heights {f : Addr} {fd : FuncData} (B : Bt K mg) (F : Fun K "_law_heights" "_law_heights" s_law_heights f fd) (Gw : KP P w K mg base "_law_worths" 4 ["_law_world_here", "_law_plan"] R_worths_by) (Gd : KP P w K mg base "_law_dressed" 4 ["_law_world_here", "_law_by"] R_weighted_by) (Gs : KP P w K mg base "_law_sure" 1 ["_law_world_here", "_law_chosen"] R_still) : FnOk P w K mg base CX0 5 f fd ["_law_world_here", "_law_by", "_law_chosen"] (spP K R_ww) := by
  refine fn_pure (N := n_law_heights) F c_law_heights (fun ds PP h => ?_) (fun cdv A outer s H E hr ds PP h => ?_)
  · obtain ⟨h, wt, c, rfl, _⟩ := h
    rfl
  · obtain ⟨h, wt, c, rfl, ok, ow, hc, rfl⟩ := h
    have n4 := ok.n4
    obtain ⟨ok', ow'⟩ := dress_ok ok ow
    refine x_retIs (ev_tupOf rfl B.tuple (lc1 (xs := List.range h.n) (enc := fun i => eRow (row (dress h wt).k fun p => elm (tabl (dress h wt) c) (dress h wt).n i ((dress h wt).n + p))) (g := fun i => eR (hts h wt c i)) 3 c_law_heights.nd (IterL.c (it_to (it_tup (ev_call Gw hr rfl (ea_cons (ev_call Gd hr rfl (ea_cons (nm 0) (ea_cons (nm 1) ea_nil)) ⟨h, wt, rfl, ok, ow, rfl⟩) (ea_cons (ev_call (Gs.mono (by decide : 1 ≤ 4)) hr rfl (ea_cons (nm 0) (ea_cons (nm 2) ea_nil)) ⟨h, c, rfl, ok, hc.len, rfl⟩) ea_nil)) ⟨dress h wt, c, by rw [dress_stl], ok', dress_cho hc, rfl⟩)) (by rw [dress_n]))) (blkOk_by (N := n_law_heights) (sc := defScope s_law_heights) (by decide +kernel)) (by rw [List.length_range]; omega) fun i hi s0 H0 C cl fp => ?_)) ?_
    · have hi := List.mem_range.mp hi
      refine Eval.to (ev_ixT (nm 3) ev_int rfl) ?_
      rw [dress_n]
      show eR (elm (tabl (dress h wt) c) h.n i h.n) = _
      rw [hts_dress ok ow hc hi]
    · unfold eRow
      rw [map_row]
      rfl
end
end Dh

set_option maxHeartbeats 4000000
/-! All choices; the tops. -/
namespace Dh
open PySem PySem.Spec PyProof.Rows L2 Ab

def moreOf (s : List Dd) (so : List Nat) : List (List Nat) := (List.range s.length).map fun a => so ++ [a]
def allC (st : List (List Dd)) : List (List Nat) := st.foldl (fun fd s => fd.flatMap (moreOf s)) [[]]
theorem allC_snoc (st : List (List Dd)) (s : List Dd) : allC (st ++ [s]) = (allC st).flatMap (moreOf s) := by
  unfold allC
  rw [List.foldl_append]
  rfl
theorem allC_mem : ∀ (n : Nat) (st : List (List Dd)), st.length = n → ∀ c, c ∈ allC st ↔ c.length = st.length ∧ ∀ i, i < st.length → c.getD i 0 < (st.getD i []).length := by
  intro n
  induction n with
  | zero =>
    intro st h c
    have e := List.eq_nil_of_length_eq_zero h
    subst e
    constructor
    · intro hc
      have : c = [] := by simpa [allC] using hc
      subst this
      exact ⟨rfl, fun i hi => absurd hi (Nat.not_lt_zero i)⟩
    · rintro ⟨h1, _⟩
      have := List.eq_nil_of_length_eq_zero h1
      subst this
      simp [allC]
  | succ n ih =>
    intro st h c
    obtain ⟨pre, s, rfl⟩ : ∃ pre s, st = pre ++ [s] := by
      have hne : st ≠ [] := fun e => by rw [e] at h; cases h
      exact ⟨st.dropLast, st.getLast hne, (List.dropLast_concat_getLast hne).symm⟩
    have hp : pre.length = n := by
      rw [List.length_append] at h
      exact Nat.succ.inj h
    have gp : ∀ i, i < pre.length → (pre ++ [s]).getD i [] = pre.getD i [] := fun i hi => by
      rw [List.getD_eq_getElem?_getD, List.getD_eq_getElem?_getD, List.getElem?_append_left hi]
    have gs : (pre ++ [s]).getD pre.length [] = s := by
      rw [List.getD_eq_getElem?_getD, List.getElem?_append_right (Nat.le_refl _), Nat.sub_self]
      rfl
    rw [allC_snoc, List.mem_flatMap, List.length_append, List.length_singleton]
    constructor
    · rintro ⟨so, hso, hc⟩
      obtain ⟨a, ha, rfl⟩ := List.mem_map.mp hc
      have ha := List.mem_range.mp ha
      obtain ⟨l1, l2⟩ := (ih pre hp so).mp hso
      refine ⟨by rw [List.length_append, l1]; rfl, fun i hi => ?_⟩
      rcases Nat.lt_or_ge i pre.length with z | z
      · rw [gp i z, List.getD_eq_getElem?_getD, List.getElem?_append_left (by omega), ← List.getD_eq_getElem?_getD]
        exact l2 i z
      · have e : i = pre.length := by omega
        subst e
        rw [gs, List.getD_eq_getElem?_getD, List.getElem?_append_right (by omega), l1, Nat.sub_self]
        exact ha
    · rintro ⟨l1, l2⟩
      have hne : c ≠ [] := fun e => by rw [e] at l1; cases l1
      have e := (List.dropLast_concat_getLast hne).symm
      have ll : c.dropLast.length = pre.length := by
        rw [List.length_dropLast]
        omega
      refine ⟨c.dropLast, (ih pre hp _).mpr ⟨ll, fun i hi => ?_⟩, List.mem_map.mpr ⟨c.getLast hne, List.mem_range.mpr ?_, e.symm⟩⟩
      · have := l2 i (by omega)
        rw [gp i hi, e, List.getD_eq_getElem?_getD, List.getElem?_append_left (by omega), ← List.getD_eq_getElem?_getD] at this
        exact this
      · have := l2 pre.length (by omega)
        rw [gs, e, List.getD_eq_getElem?_getD, List.getElem?_append_right (by omega), ll, Nat.sub_self] at this
        exact this
theorem cho_all {h : Hs} {c : List Nat} : c ∈ allC h.st ↔ ChoOk h c := by
  rw [allC_mem h.st.length h.st rfl]
  exact ⟨fun ⟨a, b⟩ => ⟨a, b⟩, fun a => ⟨a.len, a.lt⟩⟩
theorem flat_len {α β : Type} (l : List α) (g : α → List β) (m : Nat) (h : ∀ x ∈ l, (g x).length ≤ m) : (l.flatMap g).length ≤ l.length * m := by
  induction l with
  | nil => exact Nat.zero_le _
  | cons x l ih =>
    rw [List.flatMap_cons, List.length_append, List.length_cons, Nat.succ_mul]
    have h1 := h x List.mem_cons_self
    have h2 := ih fun y hy => h y (List.mem_cons_of_mem _ hy)
    omega
theorem allC_len (st : List (List Dd)) (h : ∀ s ∈ st, s.length ≤ 4) : ∀ i, i ≤ st.length → (allC (st.take i)).length ≤ 4 ^ i := by
  intro i
  induction i with
  | zero => intro _; exact Nat.le_refl _
  | succ i ih =>
    intro hi
    rw [List.take_add_one, List.getElem?_eq_getElem (by omega : i < st.length)]
    show (allC (st.take i ++ [st[i]])).length ≤ _
    rw [allC_snoc]
    have h1 := flat_len (allC (st.take i)) (moreOf st[i]) 4 fun x _ => by
      unfold moreOf
      rw [List.length_map, List.length_range]
      exact h _ (List.getElem_mem _)
    have h2 := ih (by omega)
    rw [Nat.pow_succ]
    exact Nat.le_trans h1 (Nat.mul_le_mul_right 4 h2)
theorem allC_each (st : List (List Dd)) {c : List Nat} (h : c ∈ allC st) : c.length = st.length := ((allC_mem st.length st rfl c).mp h).1

section
variable {P : Program} {w : World} {K : PySem.W.Frag} {mg : Str → Option Value} {base : Heap}
def R_choices (ds : List PyData) (PP : PyData → Prop) : Prop := ∃ h : Hs, ds = [eHs h] ∧ HsOk h ∧ PP = Is (.list ((allC h.st).map eCho))
theorem ok_law_choices {f : Addr} {fd : FuncData} (B : Bt K mg) (F : Fun K "_law_choices" "_law_choices" s_law_choices f fd) : FnOk P w K mg base CX0 1 f fd ["_law_world_here"] (spP K R_choices) := by
  refine fn_pure (N := n_law_choices) F c_law_choices (fun ds PP h => ?_) (fun cdv A outer s H E hr ds PP h => ?_)
  · obtain ⟨h, rfl, _⟩ := h
    rfl
  · obtain ⟨h, rfl, ok, rfl⟩ := h
    have n4 : h.st.length ≤ 4 := ok.n4
    have s4 : ∀ s ∈ h.st, s.length ≤ 4 := fun s hs => (ok.s1 s hs).2.1
    refine x_setIs (i := 1) (d := .list ((allC []).map eCho)) c_law_choices.nd rfl (.inl rfl) (.inl rfl) (EvalN.is (el_lst (ea_cons (ev_tup ea_nil) ea_nil))) ?_
    refine x_for PassesOwn.never rfl (it_tup (xs := h.st.map eSt) (ev_ixT (nm 0) ev_int rfl)) (fun _ i es => ∃ e2 e3 e4 e5, es = [.val (eHs h), .val (.list ((allC (h.st.take i)).map eCho)), e2, e3, e4, e5]) (fun items p => ⟨_, _, _, _, rfl⟩) (fun items p i d es1 hd ⟨e2, e3, e4, e5, he⟩ => ?_) (fun items p es1 ⟨e2, e3, e4, e5, he⟩ => ?_)
    · have p' := p
      unfold Ab.IsL at p'
      subst p' he
      obtain ⟨hi, rfl⟩ := get_of_map hd
      have m4 := s4 _ (List.getElem_mem hi)
      have l4 := allC_len h.st s4 i (by omega)
      have l256 : (allC (h.st.take i)).length ≤ 256 := Nat.le_trans l4 (Nat.le_trans (Nat.pow_le_pow_right (by decide) (by omega : i ≤ 4)) (by decide))
      refine ⟨_, _, tg_name (i := 2) c_law_choices.nd rfl (.inl rfl) (.inl rfl), ?_⟩
      refine x_ownIs (ds := []) (i := 3) c_law_choices.nd rfl (.inl rfl) (.inl rfl) (el_lst ea_nil) ?_
      refine x_for PassesOwn.never rfl (it_list (nm 1)) (fun _ j es => ∃ e4 e5, es = [.val (eHs h), .val (.list ((allC (h.st.take i)).map eCho)), .val (eSt h.st[i]), .own ((((allC (h.st.take i)).take j).flatMap (moreOf h.st[i])).map eCho), e4, e5]) (fun items p => ⟨_, _, rfl⟩) (fun items p j d es1 hd ⟨e4, e5, he⟩ => ?_) (fun items p es1 ⟨e4, e5, he⟩ => ?_)
      · have p' := p
        unfold Ab.IsL at p'
        subst p' he
        obtain ⟨hj, rfl⟩ := get_of_map hd
        have hlen : (allC (h.st.take i))[j].length ≤ 4 := by
          have := allC_each _ (List.getElem_mem hj)
          rw [List.length_take] at this
          omega
        have fl : (((allC (h.st.take i)).take j).flatMap (moreOf h.st[i])).length ≤ 1024 := by
          have h1 := flat_len ((allC (h.st.take i)).take j) (moreOf h.st[i]) 4 fun x _ => by
            unfold moreOf
            rw [List.length_map, List.length_range]
            exact m4
          rw [List.length_take] at h1
          omega
        refine ⟨_, _, tg_name (i := 4) c_law_choices.nd rfl (.inl rfl) (.inl rfl), ?_⟩
        refine x_for PassesOwn.never rfl (it_rangeE (n := h.st[i].length) rfl B.range (Eval.to (ev_lenT rfl B.len (nm 2)) (by rw [List.length_map])) (by omega)) (fun _ t es => ∃ e5, es = [.val (eHs h), .val (.list ((allC (h.st.take i)).map eCho)), .val (eSt h.st[i]), .own ((((allC (h.st.take i)).take j).flatMap (moreOf h.st[i])).map eCho ++ ((List.range t).map fun a => (allC (h.st.take i))[j] ++ [a]).map eCho), .val (eCho (allC (h.st.take i))[j]), e5]) (fun items p => ⟨e5, ?_⟩) (fun items p t d es1 hd ⟨e5, he⟩ => ?_) (fun items p es1 ⟨e5, he⟩ => ?_)
        · rw [List.range_zero, List.map_nil, List.map_nil, List.append_nil]
          rfl
        · have p' := p
          unfold Ab.IsL at p'
          subst p' he
          obtain ⟨ht, rfl⟩ := get_rng hd
          refine ⟨_, _, tg_name (i := 5) c_law_choices.nd rfl (.inl rfl) (.inl rfl), ?_⟩
          refine x_app (i := 3) (P := Is (eCho ((allC (h.st.take i))[j] ++ [t]))) rfl rfl (.inl rfl) (Eval.to (ev_catT (nm 4) (ev_tup (ea_cons (nm 5) ea_nil)) (by rw [List.length_map]; show _ + 1 ≤ 1000; omega)) ?_) (by rw [List.length_append, List.length_map, List.length_map, List.length_map, List.length_range]; omega) ?_
          · unfold eCho
            rw [List.map_append]
            rfl
          · rintro _ rfl
            refine x_nil ?_
            rw [List.range_succ, List.map_append, List.map_append, ← List.append_assoc]
            exact ⟨_, rfl⟩
        · have p' := p
          unfold Ab.IsL at p'
          subst p' he
          rw [List.length_map, List.length_range]
          refine x_nil ?_
          rw [List.take_add_one, List.getElem?_eq_getElem hj, List.flatMap_append, List.map_append]
          have e2 : (((some (allC (h.st.take i))[j]).toList.flatMap (moreOf h.st[i])).map eCho) = ((List.range h.st[i].length).map fun a => (allC (h.st.take i))[j] ++ [a]).map eCho := by
            rw [Option.toList_some, List.flatMap_singleton]
            rfl
          rw [e2]
          exact ⟨_, _, rfl⟩
      · have p' := p
        unfold Ab.IsL at p'
        subst p' he
        rw [List.length_map, List.take_length]
        refine x_frz 3 rfl (x_setIs (i := 1) c_law_choices.nd rfl (.inl rfl) (.inl rfl) (nm 3) (x_nil ?_))
        rw [List.take_add_one, List.getElem?_eq_getElem hi]
        show ∃ e2 e3 e4 e5, _ = [_, Sl.val (.list ((allC (h.st.take i ++ [h.st[i]])).map eCho)), e2, e3, e4, e5]
        rw [allC_snoc]
        exact ⟨_, _, _, _, rfl⟩
    · have p' := p
      unfold Ab.IsL at p'
      subst p' he
      rw [List.length_map, List.take_length]
      exact x_retIs (nm 1) rfl
def R_is_chosen (ds : List PyData) (PP : PyData → Prop) : Prop := ∃ (h : Hs) (c : List Nat), ds = [eHs h, eCho c] ∧ HsOk h ∧ ChoOk h c ∧ PP = Is (.bool true)
theorem ok_law_is_chosen {f : Addr} {fd : FuncData} (B : Bt K mg) (F : Fun K "_law_is_chosen" "_law_is_chosen" s_law_is_chosen f fd) (Gt : KP P w K mg base "_law_is_tuple" 1 ["_law_thing", "_law_wide"] R_tup) (Gw : KP P w K mg base "_law_is_whole" 1 ["_law_thing"] R_whole) : FnOk P w K mg base CX0 2 f fd ["_law_world_here", "_law_thing"] (spP K R_is_chosen) := by
  refine fn_pure (N := n_law_is_chosen) F c_law_is_chosen (fun ds PP h => ?_) (fun cdv A outer s H E hr ds PP h => ?_)
  · obtain ⟨h, c, rfl, _⟩ := h
    rfl
  · obtain ⟨h, c, rfl, ok, hc, rfl⟩ := h
    have n4 := ok.n4
    refine x_if (Pc := IsB false) (N1 := fun es1 => es1 = entry n_law_is_chosen.length [eHs h, eCho c]) (et_notB (k := true) (et_is (Eval.to (ev_call Gt hr rfl (ea_cons (nm 1) (ea_cons (ev_lenT rfl B.len (ev_ixT (nm 0) ev_int rfl)) ea_nil)) ⟨_, _, rfl, rfl⟩) ?_))) (fun h => nomatch h) (fun _ => x_nil rfl) ?_
    · rw [List.length_map, List.length_map, hc.len]
      show PyData.bool (decide ((h.n : Int) = (h.n : Int))) = _
      rw [decide_eq_true rfl]
    rintro es1 rfl
    refine x_retIs (ev_allT (xs := (List.range h.n).map fun i => (i, i)) rfl rfl B.all (lc2 (xs := (List.range h.n).map fun i => (i, i)) (e1 := fun i => eSt (stand h i)) (e2 := fun (i : Nat) => .int ((c.getD i 0 : Nat) : Int)) (g := fun _ => .bool true) 2 3 c_law_is_chosen.nd (IterL.c (it_to (it_zipE (xs := List.range h.n) (ys := List.range h.n) (e1 := fun i => eSt (stand h i)) (e3 := fun (i : Nat) => .int ((c.getD i 0 : Nat) : Int)) rfl B.zip (ev_ixT (nm 0) ev_int rfl) (nm 1) (.inr (congrArg PyData.tuple (st_enc h))) (.inr (eCho_row hc.len))) (by rw [zip_same]))) (blkOk_by (N := n_law_is_chosen) (sc := defScope s_law_is_chosen) (by decide +kernel)) (by rw [List.length_map, List.length_range]; omega) fun p hp s0 H0 C cl fp => ?_)) rfl
    obtain ⟨i, hi, rfl⟩ := List.mem_map.mp hp
    have hi := List.mem_range.mp hi
    have hlt := hc.lt i hi
    refine ev_and (k := true) (k2 := true) (ev_call Gw hr rfl (ea_cons (nm 3) ea_nil) ⟨_, rfl, rfl⟩) fun _ => Ab.ev_one (Eval.to (ev_chainI op_le op_lt ev_int (nm 3) (ev_lenT rfl B.len (nm 2))) ?_)
    rw [List.length_map]
    show PyData.bool (decide ((0 : Int) ≤ ((c.getD i 0 : Nat) : Int)) && decide (((c.getD i 0 : Nat) : Int) < ((stand h i).length : Int))) = _
    rw [decide_eq_true (by omega), decide_eq_true (by omega)]
    rfl
end
end Dh

set_option maxHeartbeats 4000000
/-! The tops. -/
namespace Dh
open PySem PySem.Spec PyProof.Rows L2 Ab
def tv (H : List Nat → Nat → Rat) (cs : List (List Nat)) : Nat → Nat → Rat
  | 0 => fun _ => 0
  | i + 1 => fun r => if i = 0 then H (cs.getD i []) r else if H (cs.getD i []) r < tv H cs i r then tv H cs i r else H (cs.getD i []) r
theorem tv_ok (H : List Nat → Nat → Rat) (cs : List (List Nat)) (r : Nat) : ∀ i, 1 ≤ i → (∀ j, j < i → H (cs.getD j []) r ≤ tv H cs i r) ∧ ∃ j, j < i ∧ tv H cs i r = H (cs.getD j []) r := by
  intro i
  induction i with
  | zero => intro h; omega
  | succ i ih =>
    intro _
    show (∀ j, j < i + 1 → _ ≤ if i = 0 then _ else if _ < _ then _ else _) ∧ ∃ j, j < i + 1 ∧ (if i = 0 then _ else if _ < _ then _ else _) = _
    by_cases e : i = 0
    · subst e
      rw [if_pos rfl]
      refine ⟨fun j hj => ?_, 0, Nat.lt_succ_self 0, rfl⟩
      have : j = 0 := by omega
      rw [this]
      exact Rat.le_refl
    · rw [if_neg e]
      obtain ⟨h1, j0, h2, h3⟩ := ih (by omega)
      by_cases l : H (cs.getD i []) r < tv H cs i r
      · rw [if_pos l]
        refine ⟨fun j hj => ?_, j0, by omega, h3⟩
        by_cases z : j = i
        · rw [z]
          exact Rat.le_of_lt l
        · exact h1 j (by omega)
      · rw [if_neg l]
        refine ⟨fun j hj => ?_, i, by omega, rfl⟩
        by_cases z : j = i
        · rw [z]
          exact Rat.le_refl
        · exact Rat.le_trans (h1 j (by omega)) (Rat.not_lt.mp l)
theorem shaped_Lst (l : List Rat) : SeqAt.shaped (eLst l) = true := by
  have h := shaped_Row l
  unfold SeqAt.shaped at h ⊢
  unfold eRow at h
  unfold eLst
  simpa [PyData.canLay0, PyData.depth] using h
section
variable {P : Program} {w : World} {K : PySem.W.Frag} {mg : Str → Option Value} {base : Heap}
def R_tops (ds : List PyData) (PP : PyData → Prop) : Prop := ∃ (h : Hs) (wt : List Rat), ds = [eHs h, eRow wt] ∧ HsOk h ∧ WOk h wt ∧ PP = fun d => ∀ c, IsBest h wt c → d = eRow (row h.n (hts h wt c))
theorem ok_law_tops {f : Addr} {fd : FuncData} (B : Bt K mg) (F : Fun K "_law_tops" "_law_tops" s_law_tops f fd) (Gc : KP P w K mg base "_law_choices" 1 ["_law_world_here"] R_choices) (Gh : KP P w K mg base "_law_heights" 5 ["_law_world_here", "_law_by", "_law_chosen"] R_ww) (Gb : KP P w K mg base "_law_below" 1 ["_law_x", "_law_y"] R_less) : FnOk P w K mg base CX0 6 f fd ["_law_world_here", "_law_by"] (spP K R_tops) := by
  refine fn_pure (N := n_law_tops) F c_law_tops (fun ds PP h => ?_) (fun cdv A outer s H E hr ds PP h => ?_)
  · obtain ⟨h, wt, rfl, _⟩ := h
    rfl
  · obtain ⟨h, wt, rfl, ok, ow, rfl⟩ := h
    have n1 := ok.n1
    have n4 := ok.n4
    have cget : ∀ i, i < (allC h.st).length → (allC h.st).getD i [] ∈ allC h.st := fun i hi => by
      rw [List.getD_eq_getElem?_getD, List.getElem?_eq_getElem hi]
      exact List.getElem_mem _
    have hsz : ∀ i, i < (allC h.st).length → ∀ r, r < h.n → Sz 1000 1000 (hts h wt ((allC h.st).getD i []) r) := fun i hi r hr' => hts_sz ok ow (cho_all.mp (cget i hi)) hr'
    have tsz : ∀ i, 1 ≤ i → i ≤ (allC h.st).length → ∀ r, r < h.n → Sz 1000 1000 (tv (hts h wt) (allC h.st) i r) := fun i h1 h2 r hr' => by
      obtain ⟨_, j, hj, e⟩ := tv_ok (hts h wt) (allC h.st) r i h1
      rw [e]
      exact hsz j (by omega) r hr'
    refine x_setIs (i := 2) (d := .list []) c_law_tops.nd rfl (.inl rfl) (.inl rfl) (EvalN.is (el_lst ea_nil)) ?_
    refine x_for PassesOwn.never rfl (it_list (ev_call (Gc.mono (by decide : 1 ≤ 5)) hr rfl (ea_cons (nm 0) ea_nil) ⟨h, rfl, ok, rfl⟩)) (fun _ i es => ∃ e3 e4, es = [.val (eHs h), .val (eRow wt), .val (if i = 0 then .list [] else eLst (row h.n (tv (hts h wt) (allC h.st) i))), e3, e4, .no, .no]) (fun items p => ⟨_, _, rfl⟩) (fun items p i d es1 hd ⟨e3, e4, he⟩ => ?_) (fun items p es1 ⟨e3, e4, he⟩ => ?_)
    · have p' := p
      unfold Ab.IsL at p'
      subst p' he
      obtain ⟨hi, rfl⟩ := get_of_map hd
      have eg : (allC h.st)[i] = (allC h.st).getD i [] := by
        rw [List.getD_eq_getElem?_getD, List.getElem?_eq_getElem hi]
        rfl
      rw [eg]
      have hco := cho_all.mp (cget i hi)
      refine ⟨_, _, tg_name (i := 3) c_law_tops.nd rfl (.inl rfl) (.inl rfl), ?_⟩
      refine x_setIs (i := 4) (d := eRow (row h.n (hts h wt ((allC h.st).getD i [])))) c_law_tops.nd rfl (.inl rfl) (.inl rfl) (ev_call Gh hr rfl (ea_cons (nm 0) (ea_cons (nm 1) (ea_cons (nm 3) ea_nil))) ⟨h, wt, _, rfl, ok, ow, hco, rfl⟩) ?_
      by_cases hz : i = 0
      · rw [if_pos hz]
        refine x_setIs (i := 2) (d := eLst (row h.n (tv (hts h wt) (allC h.st) (i + 1)))) c_law_tops.nd rfl (.inl rfl) (.inl rfl) (ev_if (Pc := IsB false) (EvalT.to (et_neD hr.units (nm 2) (EvalN.is (el_lst ea_nil)) rfl rfl) (by simp [PyData.eqv, PyData.eqvAll])) (fun hb => nomatch hb) (fun _ => Eval.to (EvalN.is (en_list rfl B.list (.inr (nm 4)))) ?_)) (x_nil ⟨_, _, by rw [if_neg (Nat.succ_ne_zero i)]; rfl⟩)
        show eLst (row h.n _) = eLst (row h.n fun r => if i = 0 then _ else _)
        congr 1
        refine row_congr fun r _ => ?_
        rw [if_pos hz]
      · rw [if_neg hz]
        refine x_setIs (i := 2) (d := eLst (row h.n (tv (hts h wt) (allC h.st) (i + 1)))) c_law_tops.nd rfl (.inl rfl) (.inl rfl) (ev_if (Pc := IsB true) (EvalT.to (et_neD hr.units (nm 2) (EvalN.is (el_lst ea_nil)) ?_ rfl) ?_) (fun _ => EvalN.is (EvalN.to (ds' := (row h.n (tv (hts h wt) (allC h.st) (i + 1))).map eR) (lc2 (xs := (List.range h.n).map fun r => (tv (hts h wt) (allC h.st) i r, hts h wt ((allC h.st).getD i []) r)) (e1 := eR) (e2 := eR) (g := fun q => eR (if q.2 < q.1 then q.1 else q.2)) 5 6 c_law_tops.nd (IterL.c (it_to (it_zipE (xs := row h.n (tv (hts h wt) (allC h.st) i)) (ys := row h.n (hts h wt ((allC h.st).getD i []))) (e1 := eR) (e3 := eR) rfl B.zip (nm 2) (nm 4) (.inl rfl) (.inr rfl)) ?_)) (blkOk_by (N := n_law_tops) (sc := defScope s_law_tops) (by decide +kernel)) (by rw [List.length_map, List.length_range]; omega) fun q hq s0 H0 C cl fp => ?_) ?_)) (fun hb => nomatch hb)) (x_nil ⟨_, _, by rw [if_neg (Nat.succ_ne_zero i)]; rfl⟩)
        · exact shaped_Lst _
        · show (!PyData.eqv (.list _) (.list [])) = true
          unfold row
          obtain ⟨m, hm⟩ := Nat.exists_eq_add_of_le n1
          rw [hm, Nat.add_comm, List.range_succ_eq_map]
          simp [PyData.eqv, PyData.eqvAll]
        · rw [zip_row]
        · obtain ⟨r, hr', rfl⟩ := List.mem_map.mp hq
          have hr' := List.mem_range.mp hr'
          refine ev_if (et_is (ev_call (Gb.mono (by decide : 1 ≤ 5)) hr rfl (ea_cons (nm 6) (ea_cons (nm 5) ea_nil)) ⟨_, _, rfl, (hsz i hi r hr').mono (by decide) (by decide), (tsz i (by omega) (by omega) r hr').mono (by decide) (by decide), rfl⟩)) (fun hb => ?_) (fun hb => ?_)
          · rw [if_pos (of_decide_eq_true hb.symm)]
            exact nm 5
          · rw [if_neg (of_decide_eq_false hb.symm)]
            exact nm 6
        · rw [List.map_map, map_row]
          apply List.map_congr_left
          intro r _
          show eR _ = eR (if i = 0 then _ else _)
          rw [if_neg hz]
    · have p' := p
      unfold Ab.IsL at p'
      subst p' he
      rw [List.length_map]
      have h0 : itr h wt 0 ∈ allC h.st := cho_all.mpr (itr_cho ok 0)
      have hl : 1 ≤ (allC h.st).length := by
        cases e : allC h.st with
        | nil => rw [e] at h0; cases h0
        | cons a b => show 1 ≤ b.length + 1; omega
      rw [if_neg (by omega)]
      refine x_retIs (ev_callTy call_tuple_of rfl B.tuple (by decide +kernel) (ea_cons (nm 2) ea_nil) (by rintro _ rfl; exact cd_tupL) (by decide) (by decide)) ?_
      intro c hc
      show eRow (row h.n _) = _
      congr 1
      refine row_congr fun r hr' => ?_
      obtain ⟨t1, j, hj, t2⟩ := tv_ok (hts h wt) (allC h.st) r _ hl
      obtain ⟨m, e, hf⟩ := hc
      have hco : ChoOk h c := by
        rw [e]
        exact itr_cho ok m
      have a1 : tv (hts h wt) (allC h.st) (allC h.st).length r ≤ hts h wt c r := by
        rw [t2]
        exact best_top ok ow hco hf (cho_all.mp (cget j hj)) hr'
      have a2 : hts h wt c r ≤ tv (hts h wt) (allC h.st) (allC h.st).length r := by
        obtain ⟨i, hi, ei⟩ := List.mem_iff_getElem.mp (cho_all.mpr hco)
        have := t1 i hi
        rw [List.getD_eq_getElem?_getD, List.getElem?_eq_getElem hi] at this
        have e2 : (some (allC h.st)[i]).getD [] = c := ei
        rw [e2] at this
        exact this
      exact Rat.le_antisymm a1 a2
end
end Dh

set_option maxHeartbeats 4000000
/-! The spring: its ints read and written; ints of which but a bound is known. -/
namespace Ab
open PySem PySem.Spec PyProof.Rows L2

def IntP (p : Int → Prop) : PyData → Prop := fun d => ∃ n : Int, d = .int n ∧ p n
def AnyI : Int → Prop := fun _ => True
section
variable {X : Cx} {a b e : Expr} {es : List Sl} {pos p' : Pos} {p q r : Int → Prop}
theorem ei_is {i : Int} (h : Eval X e es (Is (.int i))) (hp : p i) : Eval X e es (IntP p) := h.weak (by rintro _ rfl; exact ⟨i, rfl, hp⟩)
theorem ei_weak (h : Eval X e es (IntP p)) (w : ∀ i, p i → q i) : Eval X e es (IntP q) := h.weak fun d ⟨i, e, hp⟩ => ⟨i, e, w i hp⟩
theorem ei_add (ha : Eval X a es (IntP p)) (hb : Eval X b es (IntP q)) (h : ∀ i j, p i → q j → r (i + j)) : Eval X (.BinOp a .Add b pos) es (IntP r) := ev_op op_add ha hb (by rintro _ _ ⟨i, rfl, hi⟩ ⟨j, rfl, hj⟩; exact opd_I0.weak (by rintro _ rfl; exact ⟨_, rfl, h i j hi hj⟩))
theorem ei_sub (ha : Eval X a es (IntP p)) (hb : Eval X b es (IntP q)) (h : ∀ i j, p i → q j → r (i - j)) : Eval X (.BinOp a .Sub b pos) es (IntP r) := ev_op op_sub ha hb (by rintro _ _ ⟨i, rfl, hi⟩ ⟨j, rfl, hj⟩; exact opd_I0.weak (by rintro _ rfl; exact ⟨_, rfl, h i j hi hj⟩))
theorem ei_mul (ha : Eval X a es (IntP p)) (hb : Eval X b es (IntP q)) (h : ∀ i j, p i → q j → CMul i j ∧ r (i * j)) : Eval X (.BinOp a .Mult b pos) es (IntP r) := ev_op op_mul ha hb (by rintro _ _ ⟨i, rfl, hi⟩ ⟨j, rfl, hj⟩; exact (opd_I (h i j hi hj).1).weak (by rintro _ rfl; exact ⟨_, rfl, (h i j hi hj).2⟩))
theorem ei_mod (ha : Eval X a es (IntP p)) (hb : Eval X b es (IntP q)) (h : ∀ i j, p i → q j → 0 < j ∧ r (i % j)) : Eval X (.BinOp a .Mod b pos) es (IntP r) := ev_op op_mod ha hb (by rintro _ _ ⟨i, rfl, hi⟩ ⟨j, rfl, hj⟩; exact (opd_I (C := fun _ j => 0 < j) (h i j hi hj).1).weak (by rintro _ rfl; exact ⟨_, rfl, (h i j hi hj).2⟩))
theorem ei_fdiv (ha : Eval X a es (IntP p)) (hb : Eval X b es (IntP q)) (h : ∀ i j, p i → q j → CDiv i j ∧ r (i / j)) : Eval X (.BinOp a .FloorDiv b pos) es (IntP r) := ev_op op_fdiv ha hb (by rintro _ _ ⟨i, rfl, hi⟩ ⟨j, rfl, hj⟩; exact (opd_I (h i j hi hj).1).weak (by rintro _ rfl; exact ⟨_, rfl, (h i j hi hj).2⟩))
theorem eit_gt (ha : Eval X a es (IntP p)) (hb : Eval X b es (IntP q)) : EvalT X (.Compare a [.Gt] [b] pos) es (fun _ => True) := et_cmp op_gt ha hb (by rintro _ _ ⟨i, rfl, hi⟩ ⟨j, rfl, hj⟩; exact opd_B0.weak (by rintro _ rfl; exact ⟨_, rfl, trivial⟩)) (nomark b)
theorem ei_int1 (hg : Gl X "int") (hm : X.mg "int" = none) (h : Eval X a es (IntP p)) (he : starEach [a] X.env = (false, eval a X.env) :: starEach [] X.env := by rfl) (hpl : (backTo pos (starEach [] X.env)).any (·.1) = false := by rfl) : Eval X (.Call (.Name "int" p') [a] [] pos) es (IntP p) :=
  ev_callTy call_int1 hg hm (by decide +kernel) (PA := fun ds => ∃ i, ds = [.int i] ∧ p i) (ea_consP h ea_nil (by rintro _ _ ⟨i, rfl, hi⟩ rfl; exact ⟨i, rfl, hi⟩) he) (by
    rintro _ ⟨i, rfl, hi⟩
    exact fun O vs H oc r Q q => cd_int (K := X.K) O vs H oc r Q fun z H' d sm pd rp => q z H' d sm ⟨i, pd, hi⟩ rp) (by decide) (by decide) he hpl
/-- x[j] of the spring -/
theorem ei_spr {i : Nat} {x : Str} {j : Int} {p : Pos} (he : es[i]? = some .spr) (hN : X.N[i]? = some x) (hv : Vis X.env.scope x) (hb : Eval X b es (Is (.int j))) (hj : j = 0 ∨ j = 1 ∨ j = 2) (hs : PlainIx b := by exact fun _ _ => rfl)
    (hd : (x == ("__debug__" : Str)) = false := by decide) (hcd : (x == ("__classdict__" : Str)) = false := by decide) : Eval X (.Subscript (.Name x p) b pos) es (IntP AnyI) := fun W O σ H S Q q =>
  tes_of (pe_ix ix_list pe_s pe_s hs) (by
    obtain ⟨ad, e1, e2⟩ := S.slot i _ he
    refine tes_of (pe_var hN hv hd hcd) ⟨_, e1, hb W O σ H S _ fun y H2 d2 f2 S2 p2 r2 => ?_⟩
    have p2' : d2 = .int j := p2
    subst p2'
    cases r2
    obtain ⟨x1, x2, x3, e3⟩ := (S2.spr ad e2).2
    have hat : ∃ z : Int, atI [V.int x1, .int x2, .int x3] j = some (.int z) := by
      rcases hj with rfl | rfl | rfl
      · exact ⟨x1, atI_nat (j := 0) rfl⟩
      · exact ⟨x2, atI_nat (j := 1) rfl⟩
      · exact ⟨x3, atI_nat (j := 2) rfl⟩
    obtain ⟨z, hz⟩ := hat
    exact ⟨ad, _, j, .int z, rfl, rfl, SqL.of e3, hz, q _ H2 _ f2 S2 ⟨z, rfl, trivial⟩ (.int z)⟩)
theorem StO.wrS {K : PySem.W.Frag} {W : Vw} {O : List Addr} {H : Hp} {σ : L2.St} {ad : Addr} {x y z : Int} (S : StO K W O H σ es) (e2 : W.sa = some ad) : StO K W O (upd H ad (.lst [.int x, .int y, .int z])) σ es ∧ Trn O H O (upd H ad (.lst [.int x, .int y, .int z])) := by
  have m := (S.spr ad e2).1
  have hh : Same (hid H O) (hid (upd H ad (.lst [.int x, .int y, .int z])) O) := fun b o e => by
    obtain ⟨z1, z2⟩ := hid_some.mp e
    refine hid_some.mpr ⟨z1, ?_⟩
    rw [upd_ne (fun w => z1 (by rw [w]; exact m))]
    exact z2
  have ku : ∀ b o, b ≠ ad → H b = some o → upd H ad (.lst [.int x, .int y, .int z]) b = some o := fun b o w e => by
    rw [upd_ne w]
    exact e
  refine ⟨⟨S.sub, fun b hb => ?_, fun b o w e => ku b o (fun w2 => w (by rw [w2]; exact e2)) (S.frm b o w e), fun b hb => ⟨(S.spr b hb).1, ?_⟩, fun j e hj => ?_, S.dist, S.len, S.o0⟩, fun _ h => .inl h, fun b o hb e => ku b o (fun w => hb (by rw [w]; exact m)) e⟩
  · by_cases w : b = ad
    · rw [w, upd_same]
      exact fun w => nomatch w
    · rw [upd_ne w]
      exact S.occ b hb
  · have : ad = b := Option.some.inj (e2.symm.trans hb)
    rw [← this]
    exact ⟨x, y, z, upd_same⟩
  · exact (S.slot j e hj).mono hh fun c vs xs ee ec mc nc qc => ⟨mc, ku c _ (fun w => nc (by rw [w]; exact e2)) qc⟩
variable {N : List Sl → Prop} {R : RP} {rest : List Stmt} {b : Expr} {x : Str}
theorem three_set {x1 x2 x3 n : Int} {j : Int} (hj : j = 0 ∨ j = 1 ∨ j = 2) : ∃ (m : Nat) (y1 y2 y3 : Int), ixN [V.int x1, .int x2, .int x3].length j = some m ∧ [V.int x1, .int x2, .int x3].set m (.int n) = [.int y1, .int y2, .int y3] := by
  rcases hj with rfl | rfl | rfl
  · exact ⟨0, n, x2, x3, rfl, rfl⟩
  · exact ⟨1, x1, n, x3, rfl, rfl⟩
  · exact ⟨2, x1, x2, n, rfl, rfl⟩
/-- x[j] = e of the spring -/
theorem x_putS {j : Int} {i : Nat} {px ps : Pos} (hi : es[i]? = some .spr) (hN : X.N[i]? = some x) (hx : Vis X.env.scope x) (h : Eval X e es (IntP p)) (hj : Eval X b es (Is (.int j))) (h3 : j = 0 ∨ j = 1 ∨ j = 2) (k : Exec X rest es N R)
    (hd : (x == ("__debug__" : Str)) = false := by decide) (hcd : (x == ("__classdict__" : Str)) = false := by decide)
    (ha : ∀ v, assign (.Subscript (.Name x px) b ps) X.env v = (do
      let ov ← holding [v] (eval (.Name x px) X.env)
      let iv ← holding [v, ov] (eval b X.env)
      standAt ps
      holding [v, ov, iv] (setItem ov iv v)
      release [v, ov, iv] []) := by intro _; rfl)
    (hs : swapsWithSole [.Subscript (.Name x px) b ps] e pos.line X.env = pure false := by rfl) (hw : swappedStores [.Subscript (.Name x px) b ps] e X.env = pure none := by rfl) (h1 : (assignEach [.Subscript (.Name x px) b ps] X.env).map (·.2) = [assign (.Subscript (.Name x px) b ps) X.env] := by rfl) :
    Exec X (.Assign [.Subscript (.Name x px) b ps] e pos :: rest) es N R := fun W O σ H S D qn qr =>
  tss_of (pss_cons (ps_asg pe_s (pg_sub (pe_var hN hx hd hcd) pe_s set_list ha) hs hw h1) pss_s) (h W O σ H S _ fun v H' d f S' pd rv => by
    obtain ⟨n, ed, _⟩ := pd
    subst ed
    cases rv
    obtain ⟨ad, e1, e2⟩ := S'.slot i _ hi
    refine ⟨_, e1, hj W O σ H' S' _ fun y H2 d2 f2 S2 p2 r2 => ?_⟩
    have p2' : d2 = .int j := p2
    subst p2'
    cases r2
    obtain ⟨x1, x2, x3, e3⟩ := (S2.spr ad e2).2
    obtain ⟨m, y1, y2, y3, k1, k2⟩ := three_set (x1 := x1) (x2 := x2) (x3 := x3) (n := n) h3
    obtain ⟨S3, t3⟩ := S2.wrS (x := y1) (y := y2) (z := y3) e2
    refine ⟨ad, _, j, m, rfl, rfl, e3, k1, ?_⟩
    rw [k2]
    exact k W O σ _ S3 D (fun O' σ' H3 es' n t S4 => qn O' σ' H3 es' n (((S.trn (f.trans f2)).trans t3).trans t) S4) qr)
/-- x[j], y = e: the spring, and a local name -/
theorem x_putS2 {j : Int} {i l : Nat} {y : Str} {px ps py pt : Pos} {kk : Nat} {P : Int → Int → Prop} (hc : X.calm = true) (hNd : X.N.Nodup) (hi : es[i]? = some .spr) (hN : X.N[i]? = some x) (hx : Vis X.env.scope x) (hl : X.N[l]? = some y) (hly : Loc X.env.scope y) (hlf : X.fn y = true ∨ X.env.scope.names.lookup y = some .local) (h : Eval X e es (fun d => ∃ q r, d = .tuple [.int q, .int r] ∧ P q r)) (hj : Eval X b es (Is (.int j))) (h3 : j = 0 ∨ j = 1 ∨ j = 2) (k : ∀ q r, P q r → Exec X rest (es.set l (.val (.int r))) N R)
    (hd : (x == ("__debug__" : Str)) = false := by decide) (hcd : (x == ("__classdict__" : Str)) = false := by decide)
    (ha : ∀ v, assign (.Subscript (.Name x px) b ps) X.env v = (do
      let ov ← holding [v] (eval (.Name x px) X.env)
      let iv ← holding [v, ov] (eval b X.env)
      standAt ps
      holding [v, ov, iv] (setItem ov iv v)
      release [v, ov, iv] []) := by intro _; rfl)
    (hp1 : (assignEach [.Subscript (.Name x px) b ps, .Name y py] X.env).map (·.2) = assign (.Subscript (.Name x px) b ps) X.env :: (assignEach [.Name y py] X.env).map (·.2) := by rfl)
    (hp2 : (assignEach [.Name y py] X.env).map (·.2) = assign (.Name y py) X.env :: (assignEach [] X.env).map (·.2) := by rfl)
    (hn : (assignEach [.Subscript (.Name x px) b ps, .Name y py] X.env).length = 2 := by rfl) (hst : (assignEach [.Subscript (.Name x px) b ps, .Name y py] X.env).findIdx? (·.1) = none := by rfl)
    (hs : swapsWithSole [.Tuple [.Subscript (.Name x px) b ps, .Name y py] kk pt] e pos.line X.env = pure false := by rfl) (hw : swappedStores [.Tuple [.Subscript (.Name x px) b ps, .Name y py] kk pt] e X.env = pure none := by rfl)
    (h1 : (assignEach [.Tuple [.Subscript (.Name x px) b ps, .Name y py] kk pt] X.env).map (·.2) = [assign (.Tuple [.Subscript (.Name x px) b ps, .Name y py] kk pt) X.env] := by rfl) :
    Exec X (.Assign [.Tuple [.Subscript (.Name x px) b ps, .Name y py] kk pt] e pos :: rest) es N R := fun W O σ H S D qn qr =>
  tss_of (pss_cons (ps_asg pe_s (pg_tup hc (pgs_cons (pg_sub (pe_var hN hx hd hcd) pe_s set_list ha) (pgs_cons (pg_name hNd hl hly hlf) pgs_nil hp2) hp1) hn hst) hs hw h1) pss_s) (h W O σ H S _ fun v H' d f S' pd rv => by
    obtain ⟨q, r, ed, hP⟩ := pd
    subst ed
    cases rv with
    | tup hq ra =>
      cases ra with
      | @cons v1 _ _ _ r1 ra =>
        cases ra with
        | @cons v2 _ _ _ r2 ra =>
          cases ra
          cases r1
          cases r2
          refine ⟨_, _, rfl, sqt_mono (hid_sub _ _) hq, rfl, _, _, rfl, ?_⟩
          obtain ⟨ad, e1, e2⟩ := S'.slot i _ hi
          refine ⟨_, e1, hj W O σ H' S' _ fun y H2 dd f2 S2 p2 ry => ?_⟩
          have p2' : dd = .int j := p2
          subst p2'
          cases ry
          obtain ⟨x1, x2, x3, e3⟩ := (S2.spr ad e2).2
          obtain ⟨m, y1, y2, y3, k1, k2⟩ := three_set (x1 := x1) (x2 := x2) (x3 := x3) (n := q) h3
          obtain ⟨S3, t3⟩ := S2.wrS (x := y1) (y := y2) (z := y3) e2
          refine ⟨ad, _, j, m, rfl, rfl, e3, k1, ?_⟩
          rw [k2]
          refine ⟨_, _, rfl, rfl, ?_⟩
          exact k q r hP W O _ _ (S3.set l (.int r)) D (fun O' σ' H6 es' n t S6 => qn O' σ' H6 es' n ((((S.trn (f.trans f2)).trans t3)).trans t) S6) qr)
theorem cd_divmod {K : PySem.W.Frag} {i j : Int} (h : CDiv i j) : CallD K (fun xs H Q => ∃ i j, xs = [.int i, .int j] ∧ CDiv i j ∧ ∀ p, H p = none → Q (.ref p) (upd H p (.tup [.int (i / j), .int (i % j)]))) [.int i, .int j] (Is (.tuple [.int (i / j), .int (i % j)])) := fun O vs H oc r Q q => by
  cases r with
  | cons r1 r =>
    cases r with
    | cons r2 r =>
      cases r
      cases r1
      cases r2
      refine ⟨i, j, rfl, h, fun l hl => q _ _ _ (same_new hl) rfl (.tup (.inl (.inl (hid_some.mpr ⟨not_occ oc hl, upd_same⟩))) (.cons (.int _) (.cons (.int _) .nil)))⟩
end
end Ab

set_option maxHeartbeats 4000000
/-! The draws. -/
namespace Ab
open PySem PySem.Spec PyProof.Rows L2
section
variable {X : Cx} {a b e : Expr} {es : List Sl} {pos p' : Pos} {p q : Int → Prop} {N : List Sl → Prop} {R : RP} {rest : List Stmt} {x : Str} {xs : List PyData}
theorem ea_int2 (ha : Eval X a es (IntP p)) (hb : Eval X b es (IntP q)) (he : starEach [a, b] X.env = (false, eval a X.env) :: starEach [b] X.env := by rfl) (he2 : starEach [b] X.env = (false, eval b X.env) :: starEach [] X.env := by rfl) : EvalA X [a, b] es (fun ds => ∃ i j : Int, ds = [.int i, .int j] ∧ p i ∧ q j) :=
  ea_consP ha (PA := fun ds => ∃ j : Int, ds = [.int j] ∧ q j) (ea_consP hb ea_nil (by rintro _ _ ⟨j, rfl, hj⟩ rfl; exact ⟨j, rfl, hj⟩) he2) (by rintro _ _ ⟨i, rfl, hi⟩ ⟨j, rfl, hj⟩; exact ⟨i, j, rfl, hi, hj⟩) he
/-- x[i] = e, i of which but a bound is known -/
theorem x_putP {P : PyData → Prop} {i : Nat} {px ps : Pos} (hi : es[i]? = some (.own xs)) (hN : X.N[i]? = some x) (hx : Vis X.env.scope x) (h : Eval X e es P) (hj : Eval X b es (IntP fun j => 0 ≤ j ∧ j < xs.length)) (k : ∀ d (j : Nat), P d → j < xs.length → Exec X rest (es.set i (.own (xs.set j d))) N R)
    (hd : (x == ("__debug__" : Str)) = false := by decide) (hcd : (x == ("__classdict__" : Str)) = false := by decide)
    (ha : ∀ v, assign (.Subscript (.Name x px) b ps) X.env v = (do
      let ov ← holding [v] (eval (.Name x px) X.env)
      let iv ← holding [v, ov] (eval b X.env)
      standAt ps
      holding [v, ov, iv] (setItem ov iv v)
      release [v, ov, iv] []) := by intro _; rfl)
    (hs : swapsWithSole [.Subscript (.Name x px) b ps] e pos.line X.env = pure false := by rfl) (hw : swappedStores [.Subscript (.Name x px) b ps] e X.env = pure none := by rfl) (h1 : (assignEach [.Subscript (.Name x px) b ps] X.env).map (·.2) = [assign (.Subscript (.Name x px) b ps) X.env] := by rfl) :
    Exec X (.Assign [.Subscript (.Name x px) b ps] e pos :: rest) es N R := fun W O σ H S D qn qr =>
  tss_of (pss_cons (ps_asg pe_s (pg_sub (pe_var hN hx hd hcd) pe_s set_list ha) hs hw h1) pss_s) (h W O σ H S _ fun v H' d f S' pd rv => by
    obtain ⟨a, vs, e1, m, n, nb, e2, r⟩ := S'.slot i _ hi
    refine ⟨_, e1, hj W O σ H' S' _ fun y H2 d2 f2 S2 p2 r2 => ?_⟩
    obtain ⟨j, ed, j0, jl⟩ := p2
    subst ed
    cases r2
    have e2' := f2 _ _ n e2
    have r' := r.mono (S'.fx_hid f2)
    have rv' := rv.mono (S'.fx_hid f2)
    obtain ⟨S3, t3⟩ := S2.wr (us := vs.set j.toNat v) (ys := xs.set j.toNat d) hi e1 m n nb (RpAll.set rv' j.toNat r')
    refine ⟨a, vs, j, j.toNat, rfl, rfl, e2', ?_, k d j.toNat pd (by omega) W O σ _ S3 D (fun O' σ' H3 es' n t S4 => qn O' σ' H3 es' n (((S.trn (f.trans f2)).trans t3).trans t) S4) qr⟩
    unfold ixN
    rw [r.length, if_pos (by omega), if_pos (by omega)])
/-- its own list != .. -/
theorem et_neO {i : Nat} {px : Pos} {d2 : PyData} (hu : X.A.units + 64 < cLine) (hi : es[i]? = some (.own xs)) (hN : X.N[i]? = some x) (hx : Vis X.env.scope x) (hb : Eval X b es (Is d2)) (h1 : SeqAt.shaped (.list xs) = true) (h2 : SeqAt.shaped d2 = true)
    (hd : (x == ("__debug__" : Str)) = false := by decide) (hcd : (x == ("__classdict__" : Str)) = false := by decide) : EvalT X (.Compare (.Name x px) [.NotEq] [b] pos) es (IsB (!PyData.eqv (.list xs) d2)) := fun W O σ H S Q q =>
  tts_of (pt_cmpR (op_neD hu) pe_s pe_s (nomark b)) (own_name hi hN hx hd hcd S fun a vs m n e r => hb W O σ H S _ fun y H2 d f2 S2 p2 r2 => by
    have p2' : d = d2 := p2
    subst p2'
    have r' := (r.mono (S.fx_hid f2)).mono (hid_sub H2 O)
    exact ⟨_, _, .lst (SqL.of (f2 a _ n e)) r'.dp, (r2.mono (hid_sub H2 O)).dp, h1, h2, _, rfl, q _ H2 f2 S2 rfl⟩)
end
end Ab
namespace Dh
open PySem PySem.Spec PyProof.Rows L2 Ab
section
variable {P : Program} {w : World} {K : PySem.W.Frag} {mg : Str → Option Value} {base : Heap}
abbrev KS (P : Program) (w : World) (K : PySem.W.Frag) (mg : Str → Option Value) (base : Heap) (nm : Str) (k : Nat) (ps : List Str) (R : List PyData → (PyData → Prop) → Prop) : Prop := Kn P w K mg base nm k ps (spS K R)
def Lt (n : Int) : Int → Prop := fun k => 0 ≤ k ∧ k < n
def R_pick (ds : List PyData) (PP : PyData → Prop) : Prop := ∃ n : Int, ds = [.int n] ∧ 0 < n ∧ n < 1073741824 ∧ PP = IntP (Lt n)
theorem ok_law_pick {f : Addr} {fd : FuncData} (B : Bt K mg) (F : Fun K "_law_pick" "_law_pick" s_law_pick f fd) : FnOk P w K mg base CX0 1 f fd ["_law_spring_here", "_law_limit"] (spS K R_pick) := by
  refine fn_spr (N := n_law_pick) F c_law_pick (fun ds PP h => ?_) (fun cdv A outer s H E hr ds PP h => ?_)
  · obtain ⟨n, rfl, _⟩ := h
    rfl
  · obtain ⟨n, rfl, n0, n1, rfl⟩ := h
    refine x_if (N1 := fun es1 => es1 = entryS n_law_pick.length [.int n]) (eit_gt (ei_spr (i := 0) rfl rfl (.inl rfl) ev_int (.inl rfl)) (ei_is (p := AnyI) ev_int trivial)) (fun _ => ?_) (fun _ => x_nil rfl) ?_
    · refine x_putS2 (i := 0) (l := 2) (P := fun _ r => Lt n r) rfl c_law_pick.nd rfl rfl (.inl rfl) rfl (.inl rfl) (.inl rfl) (ev_callB call_divmod rfl B.divmod (by decide +kernel) (ea_int2 (ei_spr (i := 0) rfl rfl (.inl rfl) ev_int (.inl rfl)) (ei_is (p := fun j => j = n) (nm 1) rfl)) ?_ (by decide) (by decide)) ev_int (.inl rfl) fun q r hqr => ?_
      · rintro _ ⟨i, j, rfl, _, rfl⟩
        exact fun O vs H oc r Q q => cd_divmod (i := i) (j := j) ⟨n0, n1⟩ O vs H oc r Q fun z H' d sm pd rp => q z H' d sm ⟨_, _, pd, Int.emod_nonneg _ (by omega), Int.emod_lt_of_pos _ n0⟩ rp
      · exact x_ret (ei_is (p := Lt n) (nm 2) hqr) (fun _ h => h)
    rintro es1 rfl
    have any : ∀ i j : Int, AnyI i → AnyI j → AnyI (i + j) := fun _ _ _ _ => trivial
    refine x_putS (i := 0) (p := AnyI) rfl rfl (.inl rfl) (ei_add (ei_spr (i := 0) rfl rfl (.inl rfl) ev_int (.inr (.inr rfl))) (ei_is (p := AnyI) ev_int trivial) any) ev_int (.inr (.inr rfl)) ?_
    refine x_set (i := 3) (P := IntP (Lt 2147483579)) c_law_pick.nd rfl (.inl rfl) (.inl rfl) (ei_mod (ei_int1 rfl B.int (ei_add (ei_mul (r := AnyI) (ei_spr (i := 0) rfl rfl (.inl rfl) ev_int (.inr (.inl rfl))) (ei_is (p := fun j => j = 40692) ev_int rfl) fun i j _ hj => ⟨.inr (by rw [hj]; decide), trivial⟩) (ei_mul (r := AnyI) (ei_is (p := fun j => j = 15013) ev_int rfl) (ei_spr (i := 0) rfl rfl (.inl rfl) ev_int (.inr (.inr rfl))) fun i j hi _ => ⟨.inl (by rw [hi]; decide), trivial⟩) any)) (ei_is (p := fun j => j = 2147483579) ev_int rfl) fun i j _ hj => by
      subst hj
      exact ⟨by decide, Int.emod_nonneg _ (by decide), Int.emod_lt_of_pos _ (by decide)⟩) ?_
    rintro _ ⟨m, rfl, m0, m1⟩
    refine x_putS (i := 0) (p := AnyI) rfl rfl (.inl rfl) (ei_mod (r := AnyI) (ei_int1 rfl B.int (ei_add (r := AnyI) (ei_mul (r := AnyI) (ei_is (p := AnyI) (nm 3) trivial) (ei_add (r := Lt 100000) (ei_mod (r := Lt 6007) (ei_int1 rfl B.int (ei_is (p := AnyI) (nm 3) trivial)) (ei_is (p := fun j => j = 6007) ev_int rfl) fun i j _ hj => by
      subst hj
      exact ⟨by decide, Int.emod_nonneg _ (by decide), Int.emod_lt_of_pos _ (by decide)⟩) (ei_is (p := fun j => j = 20011) ev_int rfl) fun i j hi hj => by
      obtain ⟨h1, h2⟩ := hi
      exact ⟨by omega, by omega⟩) fun i j _ hj => ⟨.inr ⟨by have := hj.1; omega, by have := hj.2; omega⟩, trivial⟩) (ei_spr (i := 0) rfl rfl (.inl rfl) ev_int (.inr (.inr rfl))) any)) (ei_is (p := fun j => j = 2147483579) ev_int rfl) fun i j _ hj => by
      subst hj
      exact ⟨by decide, trivial⟩) ev_int (.inr (.inl rfl)) ?_
    refine x_ret (ei_mod (r := Lt n) (ei_int1 rfl B.int (ei_fdiv (r := AnyI) (ei_spr (i := 0) rfl rfl (.inl rfl) ev_int (.inr (.inl rfl))) (ei_is (p := fun j => j = 1013) ev_int rfl) fun i j _ hj => ⟨by rw [hj]; exact ⟨by decide, by decide⟩, trivial⟩)) (ei_is (p := fun j => j = n) (nm 1) rfl) fun i j _ hj => ?_) (fun _ h => h)
    subst hj
    exact ⟨n0, Int.emod_nonneg _ (by omega), Int.emod_lt_of_pos _ n0⟩
theorem ev_pick {X : Cx} {es : List Sl} {i : Nat} {x : Str} {px p pos : Pos} {b : Expr} {n : Int} {k : Nat} (G : KS X.prog X.w X.K X.mg X.base "_law_pick" 1 ["_law_spring_here", "_law_limit"] R_pick) (hr : Room k X.A) (hg : Gl X "_law_pick") (hi : es[i]? = some .spr) (hN : X.N[i]? = some x) (hv : Vis X.env.scope x) (hb : Eval X b es (Is (.int n))) (h0 : 0 < n) (h1 : n < 1073741824) (hk : 1 ≤ k)
    (hd : (x == ("__debug__" : Str)) = false := by decide) (hcd : (x == ("__classdict__" : Str)) = false := by decide) (he : starEach [.Name x px, b] X.env = (false, eval (.Name x px) X.env) :: starEach [b] X.env := by rfl) (he2 : starEach [b] X.env = (false, eval b X.env) :: starEach [] X.env := by rfl) (hpl : (backTo pos (starEach [b] X.env)).any (·.1) = false := by rfl) :
    Eval X (.Call (.Name "_law_pick" p) [.Name x px, b] [] pos) es (IntP (Lt n)) :=
  ev_callS G (hr.mono hk) hg hi hN hv (ea_cons hb ea_nil he2) ⟨n, rfl, h0, h1, rfl⟩ hd hcd (by decide) he hpl
end
end Dh

set_option maxHeartbeats 100000
/-! Drawn shares, gains, chances. -/
namespace Dh
open PySem PySem.Spec PyProof.Rows L2 Ab
theorem divInt_num_le (a b : Int) (hb : 0 < b) : (Rat.divInt a b).num.natAbs ≤ a.natAbs ∧ (Rat.divInt a b).den ≤ b.natAbs := by
  have hne : b ≠ 0 := by omega
  refine ⟨?_, ?_⟩
  · rw [Rat.num_divInt, Int.sign_eq_one_of_pos hb, Int.one_mul]
    exact Int.natAbs_ediv_le_natAbs _ _
  · rw [Rat.den_divInt, if_neg hne]
    exact Nat.div_le_self _ _
theorem divInt_nn {a b : Int} (ha : 0 ≤ a) (hb : 0 < b) : 0 ≤ Rat.divInt a b := by
  rw [← Rat.num_nonneg, Rat.num_divInt, Int.sign_eq_one_of_pos hb, Int.one_mul]
  exact Int.ediv_nonneg ha (by omega)
theorem divInt_eq (a b : Int) : Rat.divInt a b = (a : Rat) / (b : Rat) := Rat.divInt_eq_div a b
theorem x_retP {X : Cx} {e : Expr} {es : List Sl} {pos : Pos} {N : List Sl → Prop} {rest : List Stmt} {PP : PyData → Prop} (h : Eval X e es PP) : Exec X (.Return (some e) pos :: rest) es N ⟨PP, false⟩ := x_ret h (fun _ h => h)
section
variable {P : Program} {w : World} {K : PySem.W.Frag} {mg : Str → Option Value} {base : Heap}
def R_any_of (ds : List PyData) (PP : PyData → Prop) : Prop := ∃ xs : List PyData, ds = [.tuple xs] ∧ 1 ≤ xs.length ∧ xs.length ≤ 1000 ∧ PP = fun d => d ∈ xs
theorem atI_lt {xs : List PyData} {i : Int} (h : Lt xs.length i) : ∃ e, atI xs i = some e ∧ e ∈ xs := by
  obtain ⟨h0, h1⟩ := h
  obtain ⟨k, rfl⟩ := Int.eq_ofNat_of_zero_le h0
  have hk : k < xs.length := by omega
  exact ⟨xs[k], atI_nat (List.getElem?_eq_getElem hk), List.getElem_mem hk⟩
theorem ok_law_any_of {f : Addr} {fd : FuncData} (B : Bt K mg) (F : Fun K "_law_any_of" "_law_any_of" s_law_any_of f fd) (Gp : KS P w K mg base "_law_pick" 1 ["_law_spring_here", "_law_limit"] R_pick) : FnOk P w K mg base CX0 2 f fd ["_law_spring_here", "_law_some"] (spS K R_any_of) := by
  refine fn_spr (N := n_law_any_of) F c_law_any_of (fun ds PP h => ?_) (fun cdv A outer s H E hr ds PP h => ?_)
  · obtain ⟨xs, rfl, _⟩ := h
    rfl
  · obtain ⟨xs, rfl, l1, l2, rfl⟩ := h
    refine x_ret (P := fun d => d ∈ xs) (ev_ixTP (nm 1) (ev_pick (i := 0) (n := xs.length) Gp hr rfl rfl rfl (.inl rfl) (ev_lenT rfl B.len (nm 1)) (by omega) (by omega) (by decide)) ?_) (fun _ h => h)
    rintro _ ⟨i, rfl, hi⟩
    exact ⟨i, rfl, atI_lt hi⟩
def Share (q : Rat) : Prop := 0 ≤ q ∧ q < 1 ∧ q.den < 2 ^ 6
def PShare (d : PyData) : Prop := ∃ q : Rat, d = eR q ∧ Share q
def R_part (ds : List PyData) (PP : PyData → Prop) : Prop := ds = [] ∧ PP = PShare
def sevenL : List PyData := [.tuple [.int 1, .int 2], .tuple [.int 1, .int 2], .tuple [.int 1, .int 3], .tuple [.int 2, .int 3], .tuple [.int 3, .int 4], .tuple [.int 1, .int 4], .tuple [.int 0, .int 1]]
theorem seven : ∀ d ∈ sevenL, ∃ q : Rat, d = eR q ∧ Share q := by
  intro d hd
  have mk : ∀ q : Rat, decide (0 ≤ q) = true → decide (q < 1) = true → decide (q.den < 2 ^ 6) = true → Share q := fun q h1 h2 h3 => ⟨of_decide_eq_true h1, of_decide_eq_true h2, of_decide_eq_true h3⟩
  simp only [sevenL, List.mem_cons, List.not_mem_nil, or_false] at hd
  rcases hd with rfl | rfl | rfl | rfl | rfl | rfl | rfl
  · exact ⟨mkRat 1 2, rfl, mk _ (by decide +kernel) (by decide +kernel) (by decide +kernel)⟩
  · exact ⟨mkRat 1 2, rfl, mk _ (by decide +kernel) (by decide +kernel) (by decide +kernel)⟩
  · exact ⟨mkRat 1 3, rfl, mk _ (by decide +kernel) (by decide +kernel) (by decide +kernel)⟩
  · exact ⟨mkRat 2 3, rfl, mk _ (by decide +kernel) (by decide +kernel) (by decide +kernel)⟩
  · exact ⟨mkRat 3 4, rfl, mk _ (by decide +kernel) (by decide +kernel) (by decide +kernel)⟩
  · exact ⟨mkRat 1 4, rfl, mk _ (by decide +kernel) (by decide +kernel) (by decide +kernel)⟩
  · exact ⟨mkRat 0 1, rfl, mk _ (by decide +kernel) (by decide +kernel) (by decide +kernel)⟩
theorem share_of {k n : Int} (h0 : 0 ≤ k) (h1 : k < n) (h2 : n < 64) : Share (Rat.divInt k n) := by
  have hn : 0 < n := by omega
  refine ⟨divInt_nn h0 hn, ?_, Nat.lt_of_le_of_lt (divInt_num_le k n hn).2 (by omega)⟩
  rw [divInt_eq]
  have hn' : (0 : Rat) < (n : Rat) := Rat.intCast_pos.mpr hn
  rw [Rat.div_lt_iff hn', Rat.one_mul]
  exact Rat.intCast_lt_intCast.mpr h1
theorem star_t {xs : List Expr} {k : Nat} {p : Pos} {as : List Expr} {env : Env} : starEach (.Tuple xs k p :: as) env = (false, eval (.Tuple xs k p) env) :: starEach as env := rfl
theorem ea_consT {X : Cx} {es : List Sl} {xs as : List Expr} {k : Nat} {p : Pos} {d : PyData} {ds : List PyData} (h : Eval X (.Tuple xs k p) es (Is d)) (hr : EvalA X as es (Ab.IsL ds)) : EvalA X (.Tuple xs k p :: as) es (Ab.IsL (d :: ds)) := ea_cons h hr star_t
theorem ev_seven {X : Cx} {es : List Sl} {a b : Expr} {pos : Pos} {wy : Int} (w0 : 0 ≤ wy) (h7 : wy < 7) (ha : Eval X a es (Is (.tuple sevenL))) (hb : Eval X b es (Is (.int wy))) (hs : PlainIx b) : Eval X (.Subscript a b pos) es PShare := by
  refine ev_ixTP (Pb := Is (.int wy)) ha hb ?_ hs
  rintro _ rfl
  obtain ⟨e, h1, h2⟩ := atI_lt (xs := sevenL) (i := wy) ⟨w0, h7⟩
  exact ⟨wy, rfl, e, h1, seven e h2⟩
theorem ok_law_part {f : Addr} {fd : FuncData} (B : Bt K mg) (F : Fun K "_law_part" "_law_part" s_law_part f fd) (Gp : KS P w K mg base "_law_pick" 1 ["_law_spring_here", "_law_limit"] R_pick) (Gf : KP P w K mg base "_law_frac" 1 ["_law_up", "_law_down"] R_ratio) : FnOk P w K mg base CX0 2 f fd ["_law_spring_here"] (spS K R_part) := by
  refine fn_spr (N := n_law_part) F c_law_part (fun ds PP h => ?_) (fun cdv A outer s H E hr ds PP h => ?_)
  · obtain ⟨rfl, _⟩ := h
    rfl
  · obtain ⟨rfl, rfl⟩ := h
    refine x_set (i := 1) c_law_part.nd rfl (.inl rfl) (.inl rfl) (ev_pick (i := 0) (n := 9) Gp hr rfl rfl rfl (.inl rfl) ev_int (by decide) (by decide) (by decide)) ?_
    rintro _ ⟨wy, rfl, w0, w1⟩
    refine x_if (Pc := IsB (decide (wy < 7))) (N1 := fun es1 => es1 = [.spr, .val (.int wy), .no]) (et_lt (nm 1) ev_int) (fun hb => ?_) (fun _ => x_nil rfl) ?_
    · have h7 : wy < 7 := of_decide_eq_true hb.symm
      refine x_retP ?_
      have hp := fun {X es a b pos} => @ev_seven X es a b pos wy w0 h7
      refine hp ?_ ?_ ?_
      · exact ev_tup (ea_consT (ev_tup (ea_cons ev_int (ea_cons ev_int ea_nil))) (ea_consT (ev_tup (ea_cons ev_int (ea_cons ev_int ea_nil))) (ea_consT (ev_tup (ea_cons ev_int (ea_cons ev_int ea_nil))) (ea_consT (ev_tup (ea_cons ev_int (ea_cons ev_int ea_nil))) (ea_consT (ev_tup (ea_cons ev_int (ea_cons ev_int ea_nil))) (ea_consT (ev_tup (ea_cons ev_int (ea_cons ev_int ea_nil))) (ea_consT (ev_tup (ea_cons ev_int (ea_cons ev_int ea_nil))) ea_nil)))))))
      · exact nm 1
      · exact fun _ _ => rfl
    rintro es1 rfl
    refine x_set (i := 2) c_law_part.nd rfl (.inl rfl) (.inl rfl) (ei_add (r := fun k => 2 ≤ k ∧ k < 62) (ei_is (p := fun k => k = 2) ev_int rfl) (ev_pick (i := 0) (n := 60) Gp hr rfl rfl rfl (.inl rfl) ev_int (by decide) (by decide) (by decide)) fun i j hi hj => by
      obtain ⟨j0, j1⟩ := hj
      exact ⟨by omega, by omega⟩) ?_
    rintro _ ⟨un, rfl, u0, u1⟩
    refine x_retP (ev_callP Gf hr rfl (ea_int2 (ev_pick (i := 0) (n := un) Gp hr rfl rfl rfl (.inl rfl) (nm 2) (by omega) (by omega) (by decide)) (ei_is (p := fun j => j = un) (nm 2) rfl)) ?_)
    rintro _ ⟨i, j, rfl, ⟨i0, i1⟩, rfl⟩
    refine ⟨_, ⟨i, j, rfl, by omega, ?_, rfl⟩, ?_⟩
    · exact Nat.lt_of_lt_of_le (by omega : j.natAbs < 2 ^ 6) (Nat.pow_le_pow_right (by decide) (by decide))
    · rintro _ rfl
      exact ⟨_, rfl, share_of i0 i1 (by omega)⟩
def SmallG (l : List Rat) : Prop := ∀ x ∈ l, Sz 24 6 x
def R_gains (ds : List PyData) (PP : PyData → Prop) : Prop := ∃ k : Nat, ds = [.int (k : Int)] ∧ k ≤ 100 ∧ PP = fun d => ∃ l : List Rat, d = eRow l ∧ l.length = k ∧ SmallG l
theorem gain_sz {i j : Int} (h1 : i.natAbs < 2 ^ 24) (h2 : 0 < j) (h3 : j < 64) : Sz 24 6 (Rat.divInt i j) := by
  obtain ⟨a, b⟩ := divInt_num_le i j h2
  exact ⟨Nat.lt_of_le_of_lt a h1, Nat.lt_of_le_of_lt b (by omega)⟩
theorem ok_law_gains {f : Addr} {fd : FuncData} (B : Bt K mg) (F : Fun K "_law_gains" "_law_gains" s_law_gains f fd) (Gp : KS P w K mg base "_law_pick" 1 ["_law_spring_here", "_law_limit"] R_pick) (Ga : KS P w K mg base "_law_any_of" 2 ["_law_spring_here", "_law_some"] R_any_of) (Gf : KP P w K mg base "_law_frac" 1 ["_law_up", "_law_down"] R_ratio) : FnOk P w K mg base CX0 3 f fd ["_law_spring_here", "_law_pays"] (spS K R_gains) := by
  refine fn_spr (N := n_law_gains) F c_law_gains (fun ds PP h => ?_) (fun cdv A outer s H E hr ds PP h => ?_)
  · obtain ⟨k, rfl, _⟩ := h
    rfl
  · obtain ⟨k, rfl, hk, rfl⟩ := h
    refine x_ownIs (ds := []) (i := 2) c_law_gains.nd rfl (.inl rfl) (.inl rfl) (el_lst ea_nil) ?_
    refine x_for PassesOwn.never rfl (it_rangeE (n := k) rfl B.range (nm 1) (by omega)) (fun _ i es => ∃ (l : List Rat) (e3 : Sl), es = [.spr, .val (.int (k : Int)), .own (l.map eR), e3] ∧ l.length = i ∧ SmallG l) (fun items p => ⟨[], _, rfl, rfl, fun x hx => by cases hx⟩) (fun items p i d es1 hd ⟨l, e3, he, hl, hs⟩ => ?_) (fun items p es1 ⟨l, e3, he, hl, hs⟩ => ?_)
    · have p' := p
      unfold Ab.IsL at p'
      subst p' he
      obtain ⟨hi, rfl⟩ := get_rng hd
      refine ⟨_, _, tg_name (i := 3) c_law_gains.nd rfl (.inl rfl) (.inl rfl), ?_⟩
      have fin : ∀ d, (∃ q : Rat, d = eR q ∧ Sz 24 6 q) → ∃ (l' : List Rat) (e3 : Sl), [Sl.spr, .val (.int (k : Int)), .own (l.map eR ++ [d]), .val (.int (i : Int))] = [.spr, .val (.int (k : Int)), .own (l'.map eR), e3] ∧ l'.length = i + 1 ∧ SmallG l' := by
        rintro _ ⟨q, rfl, hq⟩
        refine ⟨l ++ [q], _, by rw [List.map_append]; rfl, by rw [List.length_append, hl]; rfl, fun x hx => ?_⟩
        rcases List.mem_append.mp hx with z | z
        · exact hs x z
        · rw [List.mem_singleton.mp z]
          exact hq
      refine x_if (Pc := fun _ => True) (N1 := fun es1 => ∃ (l' : List Rat) (e3 : Sl), es1 = [.spr, .val (.int (k : Int)), .own (l'.map eR), e3] ∧ l'.length = i + 1 ∧ SmallG l') (et_cmp op_eq (ev_pick (i := 0) (n := 14) Gp hr rfl rfl rfl (.inl rfl) ev_int (by decide) (by decide) (by decide)) ev_int (by rintro _ _ ⟨a, rfl, _⟩ rfl; exact opd_eqI.weak (by rintro _ rfl; exact ⟨_, rfl, trivial⟩)) (nomark _)) (fun _ => ?_) (fun _ => ?_) (fun es1 h => x_nil h)
      · refine x_app (i := 2) (P := fun d => ∃ q : Rat, d = eR q ∧ Sz 24 6 q) rfl rfl (.inl rfl) (ev_callP (Gf.mono (by decide : 1 ≤ 2)) hr rfl (ea_int2 (ei_sub (r := fun i => i.natAbs < 2 ^ 24) (ev_pick (i := 0) (n := 20000001) Gp hr rfl rfl rfl (.inl rfl) ev_int (by decide) (by decide) (by decide)) (ei_is (p := fun j => j = 10000000) ev_int rfl) fun i j hi hj => by
          obtain ⟨i0, i1⟩ := hi
          show (i - j).natAbs < 16777216
          omega) (ei_add (r := fun j => 0 < j ∧ j < 64) (ei_is (p := fun j => j = 1) ev_int rfl) (ev_pick (i := 0) (n := 60) Gp hr rfl rfl rfl (.inl rfl) ev_int (by decide) (by decide) (by decide)) fun i j hi hj => by
          obtain ⟨j0, j1⟩ := hj
          exact ⟨by omega, by omega⟩)) ?_) (by rw [List.length_map]; omega) (fun d hd => x_nil (fin d hd))
        rintro _ ⟨i, j, rfl, hi, j0, j1⟩
        refine ⟨_, ⟨i, j, rfl, by omega, ?_, rfl⟩, ?_⟩
        · exact Nat.lt_of_lt_of_le (by omega : j.natAbs < 2 ^ 6) (Nat.pow_le_pow_right (by decide) (by decide))
        · rintro _ rfl
          exact ⟨_, rfl, gain_sz hi j0 j1⟩
      · refine x_app (i := 2) (P := fun d => ∃ q : Rat, d = eR q ∧ Sz 24 6 q) rfl rfl (.inl rfl) (ev_callP (Gf.mono (by decide : 1 ≤ 2)) hr rfl (ea_int2 (ei_sub (r := fun i => i.natAbs < 2 ^ 24) (ev_pick (i := 0) (n := 8) Gp hr rfl rfl rfl (.inl rfl) ev_int (by decide) (by decide) (by decide)) (ei_is (p := fun j => j = 3) ev_int rfl) fun i j hi hj => by
          obtain ⟨i0, i1⟩ := hi
          show (i - j).natAbs < 16777216
          omega) (Eval.weak (P := IntP fun j => 0 < j ∧ j < 64) (ev_callS Ga hr rfl (i := 0) rfl rfl (.inl rfl) (ea_cons (ev_tup (ea_cons ev_int (ea_cons ev_int (ea_cons ev_int (ea_cons ev_int (ea_cons ev_int ea_nil)))))) ea_nil) ⟨_, rfl, by decide, by decide, rfl⟩) fun d hd => ?_)) ?_) (by rw [List.length_map]; omega) (fun d hd => x_nil (fin d hd))
        · simp only [List.mem_cons, List.not_mem_nil, or_false] at hd
          rcases hd with rfl | rfl | rfl | rfl | rfl
          · exact ⟨1, rfl, by decide, by decide⟩
          · exact ⟨1, rfl, by decide, by decide⟩
          · exact ⟨1, rfl, by decide, by decide⟩
          · exact ⟨2, rfl, by decide, by decide⟩
          · exact ⟨3, rfl, by decide, by decide⟩
        rintro _ ⟨i, j, rfl, hi, j0, j1⟩
        refine ⟨_, ⟨i, j, rfl, by omega, ?_, rfl⟩, ?_⟩
        · exact Nat.lt_of_lt_of_le (by omega : j.natAbs < 2 ^ 6) (Nat.pow_le_pow_right (by decide) (by decide))
        · rintro _ rfl
          exact ⟨_, rfl, gain_sz hi j0 j1⟩
    · have p' := p
      unfold Ab.IsL at p'
      subst p' he
      rw [List.length_map, List.length_range] at hl
      exact x_retIs (ev_callTyO call_tuple_of rfl B.tuple (by decide +kernel) (i := 2) rfl rfl (.inl rfl) co_tup) ⟨l, rfl, hl, hs⟩
end
end Dh

set_option maxHeartbeats 400000
/-! Drawn chances, houses. -/
namespace Dh
open PySem PySem.Spec PyProof.Rows L2 Ab
def eN (a : Nat) : PyData := .int (a : Int)
theorem sum_nat (ns : List Nat) : (ns.map fun (a : Nat) => (a : Int)).sum = ((ns.sum : Nat) : Int) := by
  induction ns with
  | nil => rfl
  | cons a l ih =>
    rw [List.map_cons, List.sum_cons, ih, List.sum_cons]
    omega
theorem enc_nat (ns : List Nat) : ns.map eN = (ns.map fun (a : Nat) => (a : Int)).map PyData.int := by
  rw [List.map_map]
  rfl
section
variable {P : Program} {w : World} {K : PySem.W.Frag} {mg : Str → Option Value} {base : Heap}
def PParts (n : Nat) (d : PyData) : Prop := ∃ ns : List Nat, d = .list (ns.map eN) ∧ ns.length = n ∧ (∀ x ∈ ns, x ≤ 43) ∧ 0 < ns.sum
def R_parts (ds : List PyData) (PP : PyData → Prop) : Prop := ∃ n : Nat, ds = [.int (n : Int)] ∧ 1 ≤ n ∧ n ≤ 4 ∧ PP = PParts n
theorem sum_set (ns : List Nat) : ∀ j, j < ns.length → 0 < (ns.set j 1).sum := by
  induction ns with
  | nil => intro j h; exact absurd h (Nat.not_lt_zero j)
  | cons a l ih =>
    intro j h
    cases j with
    | zero => rw [List.set_cons_zero, List.sum_cons]; omega
    | succ j =>
      rw [List.set_cons_succ, List.sum_cons]
      have := ih j (Nat.lt_of_succ_lt_succ h)
      omega
def twelveL : List PyData := [.int 0, .int 1, .int 0, .int 1, .int 2, .int 0, .int 1, .int 3, .int 0, .int 1, .int 2, .int 0]
theorem twelve : ∀ d ∈ twelveL, ∃ a : Nat, d = eN a ∧ a ≤ 43 := by
  intro d hd
  simp only [twelveL, List.mem_cons, List.not_mem_nil, or_false] at hd
  rcases hd with rfl | rfl | rfl | rfl | rfl | rfl | rfl | rfl | rfl | rfl | rfl | rfl
  · exact ⟨0, rfl, by decide⟩
  · exact ⟨1, rfl, by decide⟩
  · exact ⟨0, rfl, by decide⟩
  · exact ⟨1, rfl, by decide⟩
  · exact ⟨2, rfl, by decide⟩
  · exact ⟨0, rfl, by decide⟩
  · exact ⟨1, rfl, by decide⟩
  · exact ⟨3, rfl, by decide⟩
  · exact ⟨0, rfl, by decide⟩
  · exact ⟨1, rfl, by decide⟩
  · exact ⟨2, rfl, by decide⟩
  · exact ⟨0, rfl, by decide⟩
theorem ok_law_parts {f : Addr} {fd : FuncData} (B : Bt K mg) (F : Fun K "_law_parts" "_law_parts" s_law_parts f fd) (Gp : KS P w K mg base "_law_pick" 1 ["_law_spring_here", "_law_limit"] R_pick) : FnOk P w K mg base CX0 2 f fd ["_law_spring_here", "_law_wide"] (spS K R_parts) := by
  refine fn_spr (N := n_law_parts) F c_law_parts (fun ds PP h => ?_) (fun cdv A outer s H E hr ds PP h => ?_)
  · obtain ⟨n, rfl, _⟩ := h
    rfl
  · obtain ⟨n, rfl, n1, n4, rfl⟩ := h
    refine x_ownIs (ds := []) (i := 2) c_law_parts.nd rfl (.inl rfl) (.inl rfl) (el_lst ea_nil) ?_
    refine x_for PassesOwn.never rfl (it_rangeE (n := n) rfl B.range (nm 1) (by omega)) (fun _ i es => ∃ (ns : List Nat) (e3 e4 : Sl), es = [.spr, .val (.int (n : Int)), .own (ns.map eN), e3, e4] ∧ ns.length = i ∧ ∀ x ∈ ns, x ≤ 43) (fun items p => ⟨[], _, _, rfl, rfl, fun x hx => by cases hx⟩) (fun items p i d es1 hd ⟨ns, e3, e4, he, hl, hs⟩ => ?_) (fun items p es1 ⟨ns, e3, e4, he, hl, hs⟩ => ?_)
    · have p' := p
      unfold Ab.IsL at p'
      subst p' he
      obtain ⟨hi, rfl⟩ := get_rng hd
      refine ⟨_, _, tg_name (i := 3) c_law_parts.nd rfl (.inl rfl) (.inl rfl), ?_⟩
      refine x_set (i := 4) c_law_parts.nd rfl (.inl rfl) (.inl rfl) (ev_pick (i := 0) (n := 13) Gp hr rfl rfl rfl (.inl rfl) ev_int (by decide) (by decide) (by decide)) ?_
      rintro _ ⟨wy, rfl, w0, w1⟩
      refine x_app (i := 2) (P := fun d => ∃ a : Nat, d = eN a ∧ a ≤ 43) rfl rfl (.inl rfl) (ev_if (et_lt (nm 4) ev_int) (fun hb => ?_) (fun hb => ?_)) (by rw [List.length_map]; omega) ?_
      · have h12 : wy < 12 := of_decide_eq_true hb.symm
        refine ev_ixTP (Pb := Is (.int wy)) (xs := twelveL) (ev_tup (ea_cons ev_int (ea_cons ev_int (ea_cons ev_int (ea_cons ev_int (ea_cons ev_int (ea_cons ev_int (ea_cons ev_int (ea_cons ev_int (ea_cons ev_int (ea_cons ev_int (ea_cons ev_int (ea_cons ev_int ea_nil))))))))))))) (nm 4) ?_
        rintro _ rfl
        obtain ⟨e, h1, h2⟩ := atI_lt (xs := twelveL) (i := wy) ⟨w0, h12⟩
        exact ⟨wy, rfl, e, h1, twelve e h2⟩
      · refine Eval.weak (ei_add (r := fun k => 0 ≤ k ∧ k ≤ 43) (ei_is (p := fun j => j = 4) ev_int rfl) (ev_pick (i := 0) (n := 40) Gp hr rfl rfl rfl (.inl rfl) ev_int (by decide) (by decide) (by decide)) fun i j hi hj => by
          obtain ⟨j0, j1⟩ := hj
          exact ⟨by omega, by omega⟩) ?_
        rintro _ ⟨k, rfl, k0, k1⟩
        exact ⟨k.toNat, congrArg PyData.int (by omega), by omega⟩
      · rintro _ ⟨a, rfl, ha⟩
        refine x_nil ⟨ns ++ [a], _, _, by rw [List.map_append]; rfl, by rw [List.length_append, hl]; rfl, fun x hx => ?_⟩
        rcases List.mem_append.mp hx with z | z
        · exact hs x z
        · rw [List.mem_singleton.mp z]
          exact ha
    · have p' := p
      unfold Ab.IsL at p'
      subst p' he
      rw [List.length_map, List.length_range] at hl
      refine x_if (Pc := IsB (decide ((ns.sum : Int) = 0))) (N1 := fun es1 => ∃ ns' : List Nat, es1 = [.spr, .val (.int (n : Int)), .own (ns'.map eN), e3, e4] ∧ ns'.length = n ∧ (∀ x ∈ ns', x ≤ 43) ∧ 0 < ns'.sum) (EvalT.to (et_eqI (i := (ns.sum : Int)) (Eval.to (ev_callBO (cr_sum rfl) rfl B.sum (by decide +kernel) (i := 2) (xs := (ns.map fun (a : Nat) => (a : Int)).map PyData.int) (by rw [← enc_nat]; rfl) rfl (.inl rfl) co_sum) (by rw [sum_nat])) ev_int) rfl) (fun hb => ?_) (fun hb => ?_) (fun es1 ⟨ns', he, l', s', p'⟩ => ?_)
      · refine x_putP (i := 2) (P := Is (eN 1)) rfl rfl (.inl rfl) ev_int (ei_weak (ev_pick (i := 0) (n := n) Gp hr rfl rfl rfl (.inl rfl) (nm 1) (by omega) (by omega) (by decide)) fun i hi => ?_) ?_
        · rw [List.length_map, hl]
          exact hi
        · rintro _ j rfl hj
          rw [List.length_map] at hj
          refine x_nil ⟨ns.set j 1, ?_, by rw [List.length_set, hl], fun x hx => ?_, sum_set ns j hj⟩
          · show [Sl.spr, _, Sl.own ((ns.map eN).set j (eN 1)), _, _] = _
            rw [List.map_set]
          · rcases List.mem_or_eq_of_mem_set hx with z | z
            · exact hs x z
            · rw [z]
              decide
      · have : ¬ (ns.sum : Int) = 0 := of_decide_eq_false hb.symm
        exact x_nil ⟨ns, rfl, hl, hs, by omega⟩
      · subst he
        exact x_frz 2 rfl (x_retIs (nm 2) ⟨ns', rfl, l', s', p'⟩)
/-- the chances of drawn parts -/
def chOf (ns : List Nat) : List (Nat × Rat) := ((List.range ns.length).filter fun i => decide (0 < ns.getD i 0)).map fun i => (i, Rat.divInt (ns.getD i 0 : Nat) (ns.sum : Nat))
theorem sumR_div (l : List Nat) (S : Rat) (g : Nat → Nat) : sumR ((l.filter fun i => decide (0 < g i)).map fun i => ((g i : Nat) : Rat) / S) = (((l.map g).sum : Nat) : Rat) / S := by
  induction l with
  | nil =>
    show (0 : Rat) = (0 : Rat) / S
    rw [Rat.div_def, Rat.zero_mul]
  | cons a l ih =>
    rw [List.map_cons, List.sum_cons, Rat.natCast_add, Rat.div_def, Rat.add_mul, ← Rat.div_def, ← Rat.div_def, ← ih]
    by_cases h : 0 < g a
    · rw [List.filter_cons, if_pos (decide_eq_true h), List.map_cons, sumR_cons]
    · have e : g a = 0 := by omega
      rw [List.filter_cons, if_neg (by simpa using h), e]
      have : ((0 : Nat) : Rat) / S = 0 := by
        show (0 : Rat) / S = 0
        rw [Rat.div_def, Rat.zero_mul]
      rw [this, Rat.zero_add]
theorem getD_sum (ns : List Nat) : ((List.range ns.length).map fun i => ns.getD i 0).sum = ns.sum := by
  rw [← cho_row rfl]
theorem sum_le (ns : List Nat) (h : ∀ x ∈ ns, x ≤ 43) : ns.sum ≤ ns.length * 43 := by
  induction ns with
  | nil => exact Nat.le_refl _
  | cons a l ih =>
    rw [List.sum_cons, List.length_cons, Nat.succ_mul]
    have h1 := h a List.mem_cons_self
    have h2 := ih fun x hx => h x (List.mem_cons_of_mem _ hx)
    omega
theorem chOf_ok {ns : List Nat} (h4 : ns.length ≤ 4) (hs : ∀ x ∈ ns, x ≤ 43) (h0 : 0 < ns.sum) : ChOk ns.length (chOf ns) := by
  have hS : (0 : Int) < (ns.sum : Nat) := by omega
  have hl := sum_le ns hs
  refine ⟨?_, fun p hp => ?_, ?_, fun p hp => ?_, ?_, ns.sum, h0, by show ns.sum < 256; omega, fun p hp => ?_⟩
  · unfold chOf
    rw [List.length_map]
    have := List.length_filter_le (fun i => decide (0 < ns.getD i 0)) (List.range ns.length)
    rw [List.length_range] at this
    omega
  · obtain ⟨i, hi, rfl⟩ := List.mem_map.mp hp
    exact List.mem_range.mp (List.mem_filter.mp hi).1
  · unfold chOf
    rw [List.map_map]
    show List.Pairwise _ ((List.filter _ _).map fun i => i)
    rw [List.map_id']
    exact List.Pairwise.filter _ List.pairwise_lt_range
  · obtain ⟨i, hi, rfl⟩ := List.mem_map.mp hp
    have hg : 0 < ns.getD i 0 := of_decide_eq_true (List.mem_filter.mp hi).2
    show 0 < Rat.divInt _ _
    rw [divInt_eq]
    exact Rat.mul_pos (Rat.intCast_pos.mpr (by omega)) (Rat.inv_pos.mpr (Rat.intCast_pos.mpr hS))
  · unfold chOf
    rw [List.map_map]
    have e : ((List.range ns.length).filter fun i => decide (0 < ns.getD i 0)).map ((fun p : Nat × Rat => p.2) ∘ fun i => (i, Rat.divInt (ns.getD i 0 : Nat) (ns.sum : Nat))) = ((List.range ns.length).filter fun i => decide (0 < ns.getD i 0)).map fun i => ((ns.getD i 0 : Nat) : Rat) / ((ns.sum : Nat) : Rat) := by
      apply List.map_congr_left
      intro i _
      show Rat.divInt ((ns.getD i 0 : Nat) : Int) ((ns.sum : Nat) : Int) = _
      rw [divInt_eq, Rat.intCast_natCast, Rat.intCast_natCast]
    rw [e, sumR_div, getD_sum]
    exact Rat.mul_inv_cancel _ (by
      intro z
      have := Rat.natCast_eq_zero_iff.mp z
      omega)
  · obtain ⟨i, hi, rfl⟩ := List.mem_map.mp hp
    show (Rat.divInt _ _).den ∣ ns.sum
    rw [Rat.den_divInt, if_neg (by omega)]
    exact Nat.div_dvd_of_dvd (Int.natCast_dvd_natCast.mp (by
      have := Int.gcd_dvd_left (a := ((ns.sum : Nat) : Int)) (b := ((ns.getD i 0 : Nat) : Int))
      exact this))
end
end Dh

set_option maxHeartbeats 400000
/-! Drawn houses. -/
namespace Dh
open PySem PySem.Spec PyProof.Rows L2 Ab
theorem all_shape (m : Nat) (xs : List PyData) (h : ∀ x ∈ xs, x.canLay0 = true ∧ x.depth ≤ m) : PyData.canLayAll0 xs = true ∧ PyData.depthAll xs ≤ m := by
  induction xs with
  | nil => exact ⟨by simp [PyData.canLayAll0], by simp [PyData.depthAll]⟩
  | cons x xs ih =>
    have h1 := h x List.mem_cons_self
    have h2 := ih fun y hy => h y (List.mem_cons_of_mem _ hy)
    refine ⟨?_, ?_⟩
    · simp [PyData.canLayAll0, h1.1, h2.1]
    · simp only [PyData.depthAll]
      exact Nat.max_le.mpr ⟨h1.2, h2.2⟩
theorem tup_shape (m : Nat) (xs : List PyData) (h : ∀ x ∈ xs, x.canLay0 = true ∧ x.depth ≤ m) : (PyData.tuple xs).canLay0 = true ∧ (PyData.tuple xs).depth ≤ m + 1 := by
  obtain ⟨h1, h2⟩ := all_shape m xs h
  refine ⟨by simpa [PyData.canLay0] using h1, ?_⟩
  simp only [PyData.depth]
  omega
theorem shape_R (q : Rat) : (eR q).canLay0 = true ∧ (eR q).depth ≤ 1 := ⟨rfl, Nat.le_of_eq rfl⟩
theorem shape_Dd (d : Dd) : (eDd d).canLay0 = true ∧ (eDd d).depth ≤ 4 := by
  refine tup_shape 3 _ fun x hx => ?_
  simp only [List.mem_cons, List.not_mem_nil, or_false] at hx
  rcases hx with rfl | rfl
  · refine tup_shape 2 _ fun x hx => ?_
    obtain ⟨p, _, rfl⟩ := List.mem_map.mp hx
    refine tup_shape 1 _ fun x hx => ?_
    simp only [List.mem_cons, List.not_mem_nil, or_false] at hx
    rcases hx with rfl | rfl
    · exact ⟨rfl, Nat.zero_le _⟩
    · exact shape_R _
  · have := tup_shape 1 (d.ga.map eR) fun x hx => by
      obtain ⟨p, _, rfl⟩ := List.mem_map.mp hx
      exact shape_R _
    exact ⟨this.1, Nat.le_succ_of_le this.2⟩
theorem shaped_St (s : List Dd) : SeqAt.shaped (.list (s.map eDd)) = true := by
  obtain ⟨h1, h2⟩ := all_shape 4 (s.map eDd) fun x hx => by
    obtain ⟨d, _, rfl⟩ := List.mem_map.mp hx
    exact shape_Dd d
  unfold SeqAt.shaped
  have : (PyData.list (s.map eDd)).depth ≤ 64 := by
    simp only [PyData.depth]
    omega
  simp [PyData.canLay0, h1, this]
theorem eqv_nil (xs : List PyData) : (!PyData.eqv (.list xs) (.list [])) = true → xs ≠ [] := by
  intro h e
  rw [e] at h
  simp [PyData.eqv, PyData.eqvAll] at h
section
variable {P : Program} {w : World} {K : PySem.W.Frag} {mg : Str → Option Value} {base : Heap}
def PChs (n : Nat) (d : PyData) : Prop := ∃ ch, d = eChs ch ∧ ChOk n ch
def R_chances (ds : List PyData) (PP : PyData → Prop) : Prop := ∃ n : Nat, ds = [.int (n : Int)] ∧ 1 ≤ n ∧ n ≤ 4 ∧ PP = PChs n
theorem ok_law_chances {f : Addr} {fd : FuncData} (B : Bt K mg) (F : Fun K "_law_chances" "_law_chances" s_law_chances f fd) (Gp : KS P w K mg base "_law_parts" 2 ["_law_spring_here", "_law_wide"] R_parts) (Gf : KP P w K mg base "_law_frac" 1 ["_law_up", "_law_down"] R_ratio) : FnOk P w K mg base CX0 3 f fd ["_law_spring_here", "_law_wide"] (spS K R_chances) := by
  refine fn_spr (N := n_law_chances) F c_law_chances (fun ds PP h => ?_) (fun cdv A outer s H E hr ds PP h => ?_)
  · obtain ⟨n, rfl, _⟩ := h
    rfl
  · obtain ⟨n, rfl, n1, n4, rfl⟩ := h
    refine x_set (i := 2) (P := PParts n) c_law_chances.nd rfl (.inr rfl) (.inl rfl) (ev_callS Gp hr rfl (i := 0) rfl rfl (.inl rfl) (ea_cons (nm 1) ea_nil) ⟨n, rfl, n1, n4, rfl⟩) ?_
    rintro _ ⟨ns, rfl, hl, hs, h0⟩
    have ok := chOf_ok (ns := ns) (by omega) hs h0
    rw [hl] at ok
    have hle := sum_le ns hs
    have hat : ∀ i, i < n → atI (ns.map eN) (i : Int) = some (eN (ns.getD i 0)) := fun i hi => atI_nat (by
      rw [List.getElem?_map, List.getD_eq_getElem?_getD, List.getElem?_eq_getElem (by omega)]
      rfl)
    refine x_retIs (ev_tupOf rfl B.tuple (lc1F (xs := List.range n) (enc := fun (i : Nat) => .int (i : Int)) (f := fun i => decide (0 < ns.getD i 0)) (g := fun i => eCh (i, Rat.divInt (ns.getD i 0 : Nat) (ns.sum : Nat))) 3 c_law_chances.nd (IterL.c (it_rangeE rfl B.range (nm 1) (by omega))) (blkOk_by (N := n_law_chances) (sc := defScope s_law_chances) (by decide +kernel)) (by rw [List.length_range]; omega) (fun i hi s0 H0 C cl fp => ?_) (fun i hi hf s0 H0 C cl fp => ?_))) ?_
    · have hi := List.mem_range.mp hi
      exact EvalT.to (et_gt (i := ((ns.getD i 0 : Nat) : Int)) (ev_ixL (nm 2) (nm 3) (hat i hi)) ev_int) (decide_eq_decide.mpr ⟨fun h => by omega, fun h => by omega⟩)
    · have hi := List.mem_range.mp hi
      refine ev_tup (ea_cons (nm 3) (ea_cons (ev_call (Gf.mono (by decide : 1 ≤ 2)) hr rfl (ea_cons (d := .int ((ns.getD i 0 : Nat) : Int)) (ev_ixL (nm 2) (nm 3) (hat i hi)) (ea_cons (d := .int ((ns.sum : Nat) : Int)) (Eval.to (ev_callB (cr_sum rfl) rfl B.sum (by decide +kernel) (ea_cons (d := .list ((ns.map fun (a : Nat) => (a : Int)).map PyData.int)) (Eval.to (nm 2) (by rw [← enc_nat])) ea_nil) (by rintro _ rfl; exact cd_sum) (by decide) (by decide)) (by rw [sum_nat])) ea_nil)) ⟨_, _, rfl, by omega, ?_, rfl⟩) ea_nil))
      exact Nat.lt_of_lt_of_le (by omega : ((ns.sum : Nat) : Int).natAbs < 2 ^ 8) (Nat.pow_le_pow_right (by decide) (by decide))
    · refine ⟨chOf ns, ?_, ok⟩
      unfold eChs chOf
      rw [hl, List.map_map]
      rfl
def GoodD (n k : Nat) (d : Dd) : Prop := DdOk n k d ∧ SmallG d.ga
def GoodS (n k : Nat) (s : List Dd) : Prop := 1 ≤ s.length ∧ s.length ≤ 4 ∧ ∀ d ∈ s, GoodD n k d
def PWorld (k : Nat) (d : PyData) : Prop := ∃ h : Hs, d = eHs h ∧ HsOk h ∧ h.k = k ∧ ∀ s ∈ h.st, ∀ dd ∈ s, SmallG dd.ga
def R_sized (ds : List PyData) (PP : PyData → Prop) : Prop := ∃ (cs : List Nat) (k : Nat), ds = [.list (cs.map eN), .int (k : Int)] ∧ 1 ≤ cs.length ∧ cs.length ≤ 4 ∧ (∀ c ∈ cs, 1 ≤ c ∧ c ≤ 4) ∧ 1 ≤ k ∧ k ≤ 3 ∧ PP = PWorld k
theorem ok_law_sized {f : Addr} {fd : FuncData} (B : Bt K mg) (F : Fun K "_law_sized" "_law_sized" s_law_sized f fd) (Gt : KS P w K mg base "_law_part" 2 ["_law_spring_here"] R_part) (Gp : KS P w K mg base "_law_pick" 1 ["_law_spring_here", "_law_limit"] R_pick) (Gc : KS P w K mg base "_law_chances" 3 ["_law_spring_here", "_law_wide"] R_chances) (Gg : KS P w K mg base "_law_gains" 3 ["_law_spring_here", "_law_pays"] R_gains) : FnOk P w K mg base CX0 4 f fd ["_law_spring_here", "_law_counts", "_law_pays"] (spS K R_sized) := by
  refine fn_spr (N := n_law_sized) F c_law_sized (fun ds PP h => ?_) (fun cdv A outer s H E hr ds PP h => ?_)
  · obtain ⟨cs, k, rfl, _⟩ := h
    rfl
  · obtain ⟨cs, k, rfl, n1, n4, hcs, k1, k3, rfl⟩ := h
    refine x_parN (i := 3) (j := 4) (P1 := PShare) (PN := Ab.IsL []) c_law_sized.nd (by decide) (ev_callS (Gt.mono (by decide : 2 ≤ 3)) hr rfl (i := 0) rfl rfl (.inl rfl) ea_nil ⟨rfl, rfl⟩) (el_lst ea_nil) ?_
    rintro _ _ ⟨q, rfl, q0, q1, qd⟩ rfl
    refine x_for PassesOwn.never rfl (it_list (nm 1)) (fun _ i es => ∃ (sts : List (List Dd)) (e5 e6 e7 e8 : Sl), es = [.spr, .val (.list (cs.map eN)), .val (.int (k : Int)), .val (eR q), .own (sts.map eSt), e5, e6, e7, e8] ∧ sts.length = i ∧ ∀ s ∈ sts, GoodS cs.length k s) (fun items p => ⟨[], _, _, _, _, rfl, rfl, fun x hx => by cases hx⟩) (fun items p i d es1 hd ⟨sts, e5, e6, e7, e8, he, hl, hs⟩ => ?_) (fun items p es1 ⟨sts, e5, e6, e7, e8, he, hl, hs⟩ => ?_)
    · have p' := p
      unfold Ab.IsL at p'
      subst p' he
      obtain ⟨hi, rfl⟩ := get_of_map hd
      obtain ⟨c1, c4⟩ := hcs _ (List.getElem_mem hi)
      refine ⟨_, _, tg_name (i := 5) c_law_sized.nd rfl (.inl rfl) (.inl rfl), ?_⟩
      refine x_ownIs (ds := []) (i := 6) c_law_sized.nd rfl (.inl rfl) (.inl rfl) (el_lst ea_nil) ?_
      refine x_for PassesOwn.never rfl (it_rangeE (n := cs[i]) rfl B.range (nm 5) (by omega)) (fun _ j es => ∃ (sd : List Dd) (e7 e8 : Sl), es = [.spr, .val (.list (cs.map eN)), .val (.int (k : Int)), .val (eR q), .own (sts.map eSt), .val (eN cs[i]), .own (sd.map eDd), e7, e8] ∧ sd.length = j ∧ ∀ d ∈ sd, GoodD cs.length k d) (fun items p => ⟨[], _, _, rfl, rfl, fun x hx => by cases hx⟩) (fun items p j d es1 hd ⟨sd, e7, e8, he, hl2, hs2⟩ => ?_) (fun items p es1 ⟨sd, e7, e8, he, hl2, hs2⟩ => ?_)
      · have p' := p
        unfold Ab.IsL at p'
        subst p' he
        obtain ⟨hj, rfl⟩ := get_rng hd
        refine ⟨_, _, tg_name (i := 7) c_law_sized.nd rfl (.inl rfl) (.inl rfl), ?_⟩
        have fin : ∀ (d : PyData) (e8 : Sl), (∃ dd, d = eDd dd ∧ GoodD cs.length k dd) → ∃ (sd' : List Dd) (e7 e8' : Sl), [Sl.spr, .val (.list (cs.map eN)), .val (.int (k : Int)), .val (eR q), .own (sts.map eSt), .val (eN cs[i]), .own (sd.map eDd ++ [d]), .val (.int (j : Int)), e8] = [.spr, .val (.list (cs.map eN)), .val (.int (k : Int)), .val (eR q), .own (sts.map eSt), .val (eN cs[i]), .own (sd'.map eDd), e7, e8'] ∧ sd'.length = j + 1 ∧ ∀ d ∈ sd', GoodD cs.length k d := by
          rintro _ e8 ⟨dd, rfl, hg⟩
          refine ⟨sd ++ [dd], _, _, by rw [List.map_append]; rfl, by rw [List.length_append, hl2]; rfl, fun x hx => ?_⟩
          rcases List.mem_append.mp hx with z | z
          · exact hs2 x z
          · rw [List.mem_singleton.mp z]
            exact hg
        refine x_if (Pc := fun b => b = true → sd ≠ []) (N1 := fun es1 => ∃ (sd' : List Dd) (e7 e8' : Sl), es1 = [.spr, .val (.list (cs.map eN)), .val (.int (k : Int)), .val (eR q), .own (sts.map eSt), .val (eN cs[i]), .own (sd'.map eDd), e7, e8'] ∧ sd'.length = j + 1 ∧ ∀ d ∈ sd', GoodD cs.length k d) (et_w (ew_and (P1 := fun b => b = true → sd ≠ []) (EvalT.weak (et_neO hr.units (i := 6) rfl rfl (.inl rfl) (EvalN.is (el_lst ea_nil)) (shaped_St sd) rfl) fun b hb hb2 => ?_) (fun h1 => ew_and1 (et_cmp op_eq (ev_pick (i := 0) (n := 9) Gp hr rfl rfl rfl (.inl rfl) ev_int (by decide) (by decide) (by decide)) ev_int (by rintro _ _ ⟨a, rfl, _⟩ rfl; exact opd_eqI.weak (by rintro _ rfl; exact ⟨_, rfl, fun _ => h1 rfl⟩)) (nomark _))) (fun _ h => nomatch h))) (fun hb => ?_) (fun hb => ?_) (fun es1 h => x_nil h)
        · have hb' : b = !PyData.eqv (.list (sd.map eDd)) (.list []) := hb
          rw [hb2] at hb'
          intro e
          exact eqv_nil _ hb'.symm (by rw [e]; rfl)
        · have hne := hb rfl
          have h0 : 0 < sd.length := List.length_pos_iff.mpr hne
          exact x_app (i := 6) (P := fun d => ∃ dd, d = eDd dd ∧ GoodD cs.length k dd) rfl rfl (.inl rfl) (Eval.weak (ixO 6 (d := eDd sd[0]) ev_int (atI_nat (j := 0) (by rw [List.getElem?_map, List.getElem?_eq_getElem h0]; rfl))) (by rintro _ rfl; exact ⟨_, rfl, hs2 _ (List.getElem_mem h0)⟩)) (by rw [List.length_map]; omega) (fun d hd => x_nil (fin d _ hd))
        · refine x_set (i := 8) (P := PChs cs.length) c_law_sized.nd rfl (.inl rfl) (.inl rfl) (ev_callS Gc hr rfl (i := 0) rfl rfl (.inl rfl) (ea_cons (Eval.to (ev_lenL rfl B.len (nm 1)) (by rw [List.length_map])) ea_nil) ⟨cs.length, rfl, n1, n4, rfl⟩) ?_
          rintro _ ⟨ch, rfl, hch⟩
          refine x_app (i := 6) (P := fun d => ∃ dd, d = eDd dd ∧ GoodD cs.length k dd) rfl rfl (.inl rfl) (ev_tupP (PA := fun ds => ∃ l : List Rat, ds = [eChs ch, eRow l] ∧ l.length = k ∧ SmallG l) (ea_consP (nm 8) (ea_consP (PB := fun ds => ∃ l : List Rat, ds = [eRow l] ∧ l.length = k ∧ SmallG l) (ev_callS Gg hr rfl (i := 0) rfl rfl (.inl rfl) (ea_cons (nm 2) ea_nil) ⟨k, rfl, by omega, rfl⟩) ea_nil ?_) ?_) ?_) (by rw [List.length_map]; omega) (fun d hd => x_nil (fin d _ hd))
          · rintro _ _ ⟨l, rfl, h1, h2⟩ rfl
            exact ⟨l, rfl, h1, h2⟩
          · rintro _ _ rfl ⟨l, rfl, h1, h2⟩
            exact ⟨l, rfl, h1, h2⟩
          · rintro _ ⟨l, rfl, h1, h2⟩
            exact ⟨by show 2 ≤ 1000; decide, ⟨ch, l⟩, rfl, ⟨hch, h1, fun g hg => (h2 g hg).mono (by decide) (by decide)⟩, h2⟩
      · have p' := p
        unfold Ab.IsL at p'
        subst p' he
        rw [List.length_map, List.length_range] at hl2
        refine x_app (i := 4) (P := Is (eSt sd)) rfl rfl (.inl rfl) (ev_callTyO call_tuple_of rfl B.tuple (by decide +kernel) (i := 6) rfl rfl (.inl rfl) co_tup) (by rw [List.length_map]; omega) ?_
        rintro _ rfl
        refine x_nil ⟨sts ++ [sd], _, _, _, _, by rw [List.map_append]; rfl, by rw [List.length_append, hl]; rfl, fun x hx => ?_⟩
        rcases List.mem_append.mp hx with z | z
        · exact hs x z
        · rw [List.mem_singleton.mp z]
          exact ⟨by omega, by omega, hs2⟩
    · have p' := p
      unfold Ab.IsL at p'
      subst p' he
      rw [List.length_map] at hl
      refine x_retIs (ev_tup (ea_cons (nm 3) (ea_cons (nm 2) (ea_cons (ev_callTyO call_tuple_of rfl B.tuple (by decide +kernel) (i := 4) rfl rfl (.inl rfl) co_tup) ea_nil)))) ⟨⟨q, k, sts⟩, rfl, ?_, rfl, fun s hs' d hd => ((hs s hs').2.2 d hd).2⟩
      exact ⟨by show 1 ≤ sts.length; omega, by show sts.length ≤ 4; omega, k1, by show k ≤ 4; omega, fun s hs' => ⟨(hs s hs').1, (hs s hs').2.1, fun d hd => by
        have := ((hs s hs').2.2 d hd).1
        rw [← hl] at this
        exact this⟩, q0, q1, qd⟩
def R_world (ds : List PyData) (PP : PyData → Prop) : Prop := ∃ m d k : Nat, ds = [.int (m : Int), .int (d : Int), .int (k : Int)] ∧ 1 ≤ m ∧ m ≤ 4 ∧ 1 ≤ d ∧ d ≤ 4 ∧ 1 ≤ k ∧ k ≤ 3 ∧ PP = PWorld k
theorem ok_law_world {f : Addr} {fd : FuncData} (B : Bt K mg) (F : Fun K "_law_world" "_law_world" s_law_world f fd) (Gp : KS P w K mg base "_law_pick" 1 ["_law_spring_here", "_law_limit"] R_pick) (Gs : KS P w K mg base "_law_sized" 4 ["_law_spring_here", "_law_counts", "_law_pays"] R_sized) : FnOk P w K mg base CX0 5 f fd ["_law_spring_here", "_law_most_here", "_law_deeds", "_law_pays"] (spS K R_world) := by
  refine fn_spr (N := n_law_world) F c_law_world (fun ds PP h => ?_) (fun cdv A outer s H E hr ds PP h => ?_)
  · obtain ⟨m, d, k, rfl, _⟩ := h
    rfl
  · obtain ⟨m, d, k, rfl, m1, m4, d1, d4, k1, k3, rfl⟩ := h
    refine x_ownIs (ds := []) (i := 4) c_law_world.nd rfl (.inl rfl) (.inl rfl) (el_lst ea_nil) ?_
    refine x_for (PI := fun items => ∃ n : Nat, 1 ≤ n ∧ n ≤ 4 ∧ items = rangeD 0 n) PassesOwn.never rfl (it_range rfl B.range (ei_add (r := fun j => 1 ≤ j ∧ j ≤ 4) (ei_is (p := fun j => j = 1) ev_int rfl) (ev_pick (i := 0) (n := m) Gp hr rfl rfl rfl (.inl rfl) (nm 1) (by omega) (by omega) (by decide)) fun i j hi hj => by
      obtain ⟨j0, j1⟩ := hj
      exact ⟨by omega, by omega⟩) ?_) (fun _ i es => ∃ (cs : List Nat) (e5 : Sl), es = [.spr, .val (.int (m : Int)), .val (.int (d : Int)), .val (.int (k : Int)), .own (cs.map eN), e5] ∧ cs.length = i ∧ ∀ c ∈ cs, 1 ≤ c ∧ c ≤ 4) (fun items p => ⟨[], _, rfl, rfl, fun x hx => by cases hx⟩) (fun items p i dd es1 hd ⟨cs, e5, he, hl, hs⟩ => ?_) (fun items p es1 ⟨cs, e5, he, hl, hs⟩ => ?_)
    · rintro _ ⟨j, rfl, j0, j1⟩
      exact ⟨j.toNat, congrArg PyData.int (by omega), by omega, j.toNat, by omega, by omega, rfl⟩
    · obtain ⟨n, a1, a2, rfl⟩ := p
      subst he
      have hi : i < n := by
        have := (List.getElem?_eq_some_iff.mp hd).1
        unfold rangeD at this
        rw [List.length_map, List.length_range] at this
        exact this
      refine ⟨_, _, tg_name (i := 5) c_law_world.nd rfl (.inl rfl) (.inl rfl), ?_⟩
      refine x_app (i := 4) (P := fun x => ∃ c : Nat, x = eN c ∧ 1 ≤ c ∧ c ≤ 4) rfl rfl (.inl rfl) (Eval.weak (ei_add (r := fun j => 1 ≤ j ∧ j ≤ 4) (ei_is (p := fun j => j = 1) ev_int rfl) (ev_pick (i := 0) (n := d) Gp hr rfl rfl rfl (.inl rfl) (nm 2) (by omega) (by omega) (by decide)) fun i j hi hj => by
        obtain ⟨j0, j1⟩ := hj
        exact ⟨by omega, by omega⟩) ?_) (by rw [List.length_map]; omega) ?_
      · rintro _ ⟨j, rfl, j0, j1⟩
        exact ⟨j.toNat, congrArg PyData.int (by omega), by omega, by omega⟩
      · rintro _ ⟨c, rfl, c1, c4⟩
        refine x_nil ⟨cs ++ [c], _, by rw [List.map_append]; rfl, by rw [List.length_append, hl]; rfl, fun x hx => ?_⟩
        rcases List.mem_append.mp hx with z | z
        · exact hs x z
        · rw [List.mem_singleton.mp z]
          exact ⟨c1, c4⟩
    · obtain ⟨n, a1, a2, rfl⟩ := p
      subst he
      unfold rangeD at hl
      rw [List.length_map, List.length_range] at hl
      exact x_frz 4 rfl (x_retP (ev_callS Gs hr rfl (i := 0) rfl rfl (.inl rfl) (ea_cons (nm 4) (ea_cons (nm 3) ea_nil)) ⟨cs, k, rfl, by omega, by omega, hs, k1, k3, rfl⟩))
end
end Dh

set_option maxHeartbeats 400000
/-! Defs whose frames know that no repr is under way: repr itself, their calls. -/
namespace Ab
open PySem PySem.Spec PyProof.Rows L2

/-- FnOk, for frames of which the guards are known to be none -/
structure FnG (P : Program) (w : World) (K : PySem.W.Frag) (mg : Str → Option Value) (base : Heap) (k : Nat) (f : Addr) (fd : FuncData) (ps : List Str) (sp : Sp) : Prop where
  cnt : ∀ vs H Q E, sp vs H Q E → vs.length = ps.length
  go : ∀ (A : Around) (ou : List Env) (s0 : Shared) (H0 : Hp) (ar : Args) (us : List Value) (vs : List V) (Q : VK) (E : XK), Room k A → A.guards = some [] → Env0 P w K mg base A ou s0 H0 →
    BindsTo s0 fd ar (ps.zip us) → Vals vs us → sp vs H0 Q E → codeAny (model P w) A (.call (.ref f) ar) (CR CX0 ou P w H0 s0 Q E) s0
theorem FnG.mono {P : Program} {w : World} {K : PySem.W.Frag} {mg : Str → Option Value} {base : Heap} {j k : Nat} {f : Addr} {fd : FuncData} {ps : List Str} {sp : Sp} (F : FnG P w K mg base j f fd ps sp) (h : j ≤ k) : FnG P w K mg base k f fd ps sp :=
  ⟨F.cnt, fun A ou s0 H0 ar us vs Q E hr => F.go A ou s0 H0 ar us vs Q E (hr.mono h)⟩
section
variable {P : Program} {w : World} {K : PySem.W.Frag} {mg : Str → Option Value} {base : Heap}
theorem fnG_of {x qual : Str} {st : Stmt} {f : Addr} {fd : FuncData} {N ps : List Str} {k : Nat} {sp : Sp} (F : Fun K x qual st f fd) (S : FnScope N ps (defScope st)) (hc : ∀ vs H Q E, sp vs H Q E → vs.length = ps.length)
    (hbd : ∀ (cv : Value) (A : Around) (ou : List Env) (s0 : Shared) (H0 : Hp) (vs : List V) (Q : VK) (E : XK), Room k (A.deeper (envOfC qual (defScope st) s0.heap.objs.size f cv)) → A.guards = some [] → sp vs H0 Q E →
      ∃ tr, PSs (cxOf CX0 P w K mg base N qual (defScope st) f cv A ou s0 H0 E).nox (defBody st) tr ∧ tr { nx := fun _ H' => Q .non H', rt := Q } (start N vs) H0) : FnG P w K mg base (k + 1) f fd ps sp := by
  obtain ⟨c1, c2, c3, c4, c5, c6, cv, c8, c9, efd, look, coded⟩ := F.ex
  subst efd
  constructor
  · exact hc
  intro A ou s0 H0 ar us vs Q E room gd en bi rv spv
  have count := hc _ _ _ _ spv
  have inK : K.In s0.heap := en.mod.kin.keeps fun c ob z => (en.bs c ob z).1
  have noLim : s0.heap.NoLimit := en.mod.nolimit.keeps fun c ob z => (en.bs c ob z).1
  have kinds : ∀ y ∈ ps.zip us, (defScope st).names.lookup y.1 = some .local ∨ ((defScope st).names.lookup y.1 = some .cell ∧ ((cellsFrom (s0.heap.objs.size + 1) (defScope st).names []).lookup y.1).isSome = true) := by
    rintro ⟨pn, pv⟩ hy
    rcases S.par pn (List.of_mem_zip hy).1 with z | z
    · exact Or.inl z
    · exact Or.inr ⟨z, PySem.W.cellsFrom_some _ _ _ (Or.inl z)⟩
  refine codeAny_call_function room.depth (inK _ _ look) rfl S.co S.gen rfl (PySem.W.codeRec_of inK coded) (bi _ _ _ _ ?_)
  refine wpAny_newFunctionEnv_cells S.kind kinds ?_
  rintro ev rfl s2 ic
  refine ⟨noLim.keeps ic.toInCall.keep, codeAny_func ?_⟩
  obtain ⟨tr, hps, htr⟩ := hbd cv A ou s0 H0 vs Q E (room.deeper _) gd spv
  have J := inv_start (CX := CX0) (E := E) S room.hd en count rv ic
  have done : ∀ {σ' : L2.St} {H' : Hp} {v : V} {u : Value} {s' : Shared}, Inv (cxOf CX0 P w K mg base N qual (defScope st) f cv A ou s0 H0 E) [] σ' H' s' → RelV v u → Q v H' → CE ou P w H0 s0 Q u s' := fun {σ' H' v u s'} I1 r1 q1 =>
    ⟨v, H', I1.os, I1.bare, I1.base, I1.hok, r1, q1⟩
  refine wpAny_mono (hps.nox.run [] s2 (start N vs) H0 _ J htr) ?_ fun _ _ z => z
  intro fl s3 z
  cases fl with
  | next =>
    obtain ⟨σ3, H3, I3, q3⟩ := z
    exact done (v := .non) (u := .none) I3 rfl q3
  | ret u =>
    obtain ⟨v, σ3, H3, I3, r3, q3⟩ := z
    exact done I3 r3 q3
  | brk => exact z.elim fun _ z => z.elim fun _ z => z.2.elim
  | cont => exact z.elim fun _ z => z.elim fun _ z => z.2.elim
end
section
variable {X : Cx} {k : Nat} {f : Addr} {fd : FuncData} {ps : List Str} {sp : Sp} {x : Str} {p pos : Pos} {e : Expr} {as : List Expr} {t : TA}
theorem pe_callG (F : FnG X.prog X.w X.K X.mg X.base k f fd ps sp) (room : Room k X.A) (gd : X.A.guards = some []) (hg : Gl X x) (hm : X.mg x = some (.ref f)) (kp : PySem.W.keepIn X.K (.ref f) = true) (hb : Binds X.K fd ps [])
    (ha : PA X (e :: as) t) (hdb : (x == ("__debug__" : Str)) = false) (he : starEach (e :: as) X.env = (false, eval e X.env) :: starEach as X.env) (hpl : (backTo pos (starEach as X.env)).any (·.1) = false) :
    PE X (.Call (.Name x p) (e :: as) [] pos) (tCall sp [] E0 t) := by
  constructor
  intro pins s σ H Q I h
  refine wpAny_Call_Name_kw (ld_glob I hg hm ?_ hdb)
  refine PySem.W.callWith_K (h₀ := X.base) I.ok.mod.kin kp (thn (ha.run pos pins s σ H _ I h) ?_) he hpl
  rintro us s1 ⟨vs, H1, I1, r, q⟩
  refine ⟨I1.kIn, ?_⟩
  rw [List.append_nil] at q
  have cnt : (us ++ []).length = ps.length := by
    rw [List.append_nil, ← r.length]
    exact F.cnt _ _ _ _ q
  have bi := hb s1 us I1.kIn cnt
  rw [List.append_nil] at bi
  refine wpAny_call (codeAny_mono (F.go X.A X.stack s1 H1 ⟨us, []⟩ us vs Q E0 room gd I1.env0 bi r q) ?_)
  intro res s2 z
  cases res with
  | error er => exact False.elim z
  | ok fl =>
    cases fl with
    | ret u => exact I1.after z
    | next => exact False.elim z
    | brk => exact False.elim z
    | cont => exact False.elim z
/-- repr(x) -/
def rRepr (K : PySem.W.Frag) : List V → Hp → VK → Prop := fun xs H Q => ∃ (a : Addr) (d : PyData), xs = [.ref a] ∧ Dp K H (.ref a) d ∧ d.showable = true ∧ d.hasDict = false ∧ d.depth ≤ 64 ∧ d.shown.length ≤ sizeLine ∧ Q (.str d.shown) H
theorem call_reprG (gd : X.A.guards = some []) (hu : X.A.units + 100 < cLine) : CallR X (.builtin "repr") (rRepr X.K) := by
  intro pins s σ H xs us Q I r h
  obtain ⟨a, d, rfl, hd, h1, h2, h3, h4, q⟩ := h
  cases r with
  | cons r0 r =>
    cases r
    obtain ⟨ads, rd⟩ := Dp.reads I d (.ref a) _ hd r0
    cases r0
    refine repr_of_reads' rd h1 (fun z => by rw [h2] at z; cases z) gd (by omega) (fun _ _ z => z) (fun h' u tk kp => ?_) h4
    exact ⟨.str d.shown, H, I.kept kp, ⟨u, rfl⟩, q⟩
variable {es : List Sl} {d : PyData}
theorem ev_repr (gd : X.A.guards = some []) (hu : X.A.units + 100 < cLine) (hg : Gl X "repr") (hm : X.mg "repr" = none) (h : Eval X e es (Is d)) (hd : ∃ xs, d = .tuple xs) (h1 : d.showable = true) (h2 : d.hasDict = false) (h3 : d.depth ≤ 64) (h4 : d.shown.length ≤ sizeLine)
    (he : starEach [e] X.env = (false, eval e X.env) :: starEach [] X.env := by rfl) (hpl : (backTo pos (starEach [] X.env)).any (·.1) = false := by rfl) : Eval X (.Call (.Name "repr" p) [e] [] pos) es (Is (.str d.shown)) :=
  ev_callB (call_reprG gd hu) hg hm (by decide +kernel) (ea_cons h ea_nil he) (by
    rintro _ rfl O vs H oc r Q q
    obtain ⟨xs, rfl⟩ := hd
    cases r with
    | cons r1 r =>
      cases r
      cases r1 with
      | tup hs ra => exact ⟨_, _, rfl, (Rp.tup (sqt_mono (hid_sub H O) hs) (ra.mono (hid_sub H O))).dp, h1, h2, h3, h4, q _ H _ (Same.refl H) rfl (.str _)⟩) (by decide) (by decide) he hpl
end
end Ab

set_option maxHeartbeats 400000
/-! Calls by keyword; the last checks. -/
namespace Ab
open PySem PySem.Spec PyProof.Rows L2
section
variable {P : Program} {w : World} {K : PySem.W.Frag} {mg : Str → Option Value} {base : Heap}
/-- a def of two parameters, called by keyword in the other order -/
def KnK (P : Program) (w : World) (K : PySem.W.Frag) (mg : Str → Option Value) (base : Heap) (nm x y : Str) (k : Nat) (sp : Sp) : Prop :=
  ∃ (f : Addr) (fd : FuncData), mg nm = some (.ref f) ∧ PySem.W.keepIn K (.ref f) = true ∧ (∀ (s : Shared) (a b : Value), BindsTo s fd ⟨[], [(y, a), (x, b)]⟩ [(x, b), (y, a)]) ∧ FnOk P w K mg base CX0 k f fd [x, y] sp
/-- .. of which the frames know their guards -/
def KnG (P : Program) (w : World) (K : PySem.W.Frag) (mg : Str → Option Value) (base : Heap) (nm : Str) (k : Nat) (ps : List Str) (sp : Sp) : Prop :=
  ∃ (f : Addr) (fd : FuncData), mg nm = some (.ref f) ∧ PySem.W.keepIn K (.ref f) = true ∧ Binds K fd ps [] ∧ FnG P w K mg base k f fd ps sp
variable {X : Cx} {es : List Sl} {nm x y : Str} {p p1 p2 pos : Pos} {k : Nat} {e1 e2 e : Expr} {as : List Expr} {d1 d2 : PyData} {R : List PyData → (PyData → Prop) → Prop} {PP : PyData → Prop} {ps : List Str}
theorem ev_callK {f : Addr} {fd : FuncData} (F : KnK X.prog X.w X.K X.mg X.base nm x y k (spP X.K R)) (hr : Room k X.A) (hg : Gl X nm) (h1 : Eval X e1 es (Is d1)) (h2 : Eval X e2 es (Is d2)) (hR : R [d2, d1] PP)
    (hdb : (nm == ("__debug__" : Str)) = false := by decide) (hall : (backToKw pos (keywordEach [⟨some y, e1, p1⟩, ⟨some x, e2, p2⟩] X.env)).all (·.1.isSome) = true := by rfl)
    (hks : (backToKw pos (keywordEach [⟨some y, e1, p1⟩, ⟨some x, e2, p2⟩] X.env)).filterMap (·.1) = [y, x] := by rfl)
    (hpl : ((backTo pos (starEach [] X.env)).any (·.1) || (backToKw pos (keywordEach [⟨some y, e1, p1⟩, ⟨some x, e2, p2⟩] X.env)).any (·.1.isNone)) = false := by rfl) :
    Eval X (.Call (.Name nm p) [] [⟨some y, e1, p1⟩, ⟨some x, e2, p2⟩] pos) es PP := fun W O σ H S Q q => by
  obtain ⟨f, fd, m1, m2, m3, F⟩ := F
  refine ⟨fun pins s I => ?_⟩
  refine wpAny_Call_Name_kw (ld_glob I hg m1 ?_ hdb)
  refine PySem.W.callWith_KW0 (h₀ := X.base) I.ok.mod.kin m2 hall ?_ hpl
  have kk : PK X [⟨some y, e1, p1⟩, ⟨some x, e2, p2⟩] (tCons (TEs X e1) (tCons (TEs X e2) tNil)) := pk_cons pe_s (pk_cons pe_s pk_nil)
  refine thn (kk.run pos pins s σ H (fun vs H' => ∃ v1 v2, vs = [v1, v2] ∧ spP X.K R [v2, v1] H' Q E0) I (h1 W O σ H S _ fun v1 H1 d f1 S1 q1 r1 => h2 W O σ H1 S1 _ fun v2 H2 d' f2 S2 q2 r2 => ⟨v1, v2, rfl, O, [d', d], PP, S2.occ, .cons r2 (.cons (r1.mono (S1.fx_hid f2)) .nil), ?_, fun v H' dd sm pp rr => q v H' dd ((f1.trans f2).trans (Same.fx sm)) (S2.same sm) pp rr⟩)) ?_
  · have e1' : d = d1 := q1
    have e2' : d' = d2 := q2
    rw [e1', e2']
    exact hR
  rintro ws s2 ⟨vs, H2, I2, rv, v1, v2, rfl, spq⟩
  refine ⟨I2.kIn, ?_⟩
  rw [hks]
  cases rv with
  | @cons _ u1 _ _ r1 rv =>
    cases rv with
    | @cons _ u2 _ _ r2 rv =>
      cases rv
      refine wpAny_call (codeAny_mono (F.run X.A X.stack s2 H2 ⟨[], [(y, u1), (x, u2)]⟩ [u2, u1] [v2, v1] Q E0 hr I2.env0 (m3 s2 u1 u2) (.cons r2 (.cons r1 .nil)) spq) ?_)
      intro res s3 z
      cases res with
      | error er => exact False.elim z
      | ok fl =>
        cases fl with
        | ret u => exact I2.after z
        | next => exact False.elim z
        | brk => exact False.elim z
        | cont => exact False.elim z
theorem ev_callG {ds : List PyData} (F : KnG X.prog X.w X.K X.mg X.base nm k ps (spP X.K R)) (hr : Room k X.A) (gd : X.A.guards = some []) (hg : Gl X nm) (ha : EvalA X (e :: as) es (IsL ds)) (hR : R ds PP)
    (hdb : (nm == ("__debug__" : Str)) = false := by decide) (he : starEach (e :: as) X.env = (false, eval e X.env) :: starEach as X.env := by rfl) (hpl : (backTo pos (starEach as X.env)).any (·.1) = false := by rfl) : Eval X (.Call (.Name nm p) (e :: as) [] pos) es PP := fun W O σ H S Q q => by
  obtain ⟨f, fd, m1, m2, m3, F⟩ := F
  refine tes_of (pe_callG F hr gd hg m1 m2 m3 pa_s hdb he hpl) (ha W O σ H S _ fun vs H1 ds' f1 S1 p1 r1 => ?_)
  have e' : ds' = ds := p1
  subst e'
  show spP X.K R (vs ++ []) H1 Q E0
  rw [List.append_nil]
  exact ⟨O, ds', PP, S1.occ, r1, hR, fun v H' d sm pp r => q v H' d (f1.trans (Same.fx sm)) (S1.same sm) pp r⟩
theorem fnG_pure {x qual : Str} {st : Stmt} {f : Addr} {fd : FuncData} {N ps : List Str} {k : Nat} {R : List PyData → (PyData → Prop) → Prop} (F : Fun K x qual st f fd) (S : FnScope N ps (defScope st)) (hl : ∀ ds P, R ds P → ds.length = ps.length)
    (hb : ∀ (cv : Value) (A : Around) (ou : List Env) (s0 : Shared) (H0 : Hp) (E : XK), Room k (A.deeper (envOfC qual (defScope st) s0.heap.objs.size f cv)) → A.guards = some [] → ∀ ds PP, R ds PP → Exec (cxOf CX0 P w K mg base N qual (defScope st) f cv A ou s0 H0 E).nox (defBody st) (entry N.length ds) (fun _ => PP .none) ⟨PP, false⟩) :
    FnG P w K mg base (k + 1) f fd ps (spP K R) := by
  refine fnG_of F S (fun vs H Q E h => ?_) fun cv A ou s0 H0 vs Q E hr gd h => ?_
  · obtain ⟨O, ds, PP, _, r, hR, _⟩ := h
    exact r.length.trans (hl ds PP hR)
  · obtain ⟨O, ds, PP, oc, r, hR, q⟩ := h
    refine ⟨_, pss_s, hb cv A ou s0 H0 E hr gd ds PP hR ⟨H0, O, none⟩ O (start N vs) H0 (st_pure oc r) _ ?_ ?_⟩
    · intro O' σ' H' es' n t S'
      exact q _ H' .none (fun b o e => S'.frm b o (fun z => nomatch z) e) n .non
    · intro v H' rt
      obtain ⟨d, hd, rd⟩ := rt.dat
      exact q v H' d (fun b o e => rt.frm b o (fun z => nomatch z) e) hd rd
theorem fnG_spr {x qual : Str} {st : Stmt} {f : Addr} {fd : FuncData} {N ps : List Str} {k : Nat} {R : List PyData → (PyData → Prop) → Prop} (F : Fun K x qual st f fd) (S : FnScope N ps (defScope st)) (hl : ∀ ds P, R ds P → ds.length + 1 = ps.length)
    (hb : ∀ (cv : Value) (A : Around) (ou : List Env) (s0 : Shared) (H0 : Hp) (E : XK), Room k (A.deeper (envOfC qual (defScope st) s0.heap.objs.size f cv)) → A.guards = some [] → ∀ ds PP, R ds PP → Exec (cxOf CX0 P w K mg base N qual (defScope st) f cv A ou s0 H0 E).nox (defBody st) (entryS N.length ds) (fun _ => PP .none) ⟨PP, false⟩) :
    FnG P w K mg base (k + 1) f fd ps (spS K R) := by
  refine fnG_of F S (fun vs H Q E h => ?_) fun cv A ou s0 H0 vs Q E hr gd h => ?_
  · obtain ⟨O, a, us, ds, PP, rfl, _, _, _, r, hR, _⟩ := h
    rw [List.length_cons, r.length]
    exact hl ds PP hR
  · obtain ⟨O, a, us, ds, PP, rfl, ha, sp, oc, r, hR, q⟩ := h
    refine ⟨_, pss_s, hb cv A ou s0 H0 E hr gd ds PP hR ⟨H0, O, some a⟩ O _ H0 (st_spr oc ha sp r) _ ?_ ?_⟩
    · intro O' σ' H' es' n t S'
      exact q _ H' .none (fun b o ne e => S'.frm b o (fun z => ne (Option.some.inj z).symm) e) (S'.spr a rfl).2 n .non
    · intro v H' rt
      obtain ⟨d, hd, rd⟩ := rt.dat
      exact q v H' d (fun b o ne e => rt.frm b o (fun z => ne (Option.some.inj z).symm) e) (rt.spr a rfl) hd rd
end
end Ab

set_option maxHeartbeats 400000
/-! The last checks of one lap. -/
namespace Dh
open PySem PySem.Spec PyProof.Rows L2 Ab
structure Okd (m L : Nat) (d : PyData) : Prop where
  sh : d.showable = true
  nd : d.hasDict = false
  dp : d.depth ≤ m
  ln : d.shown.length ≤ L
theorem okd_int {i : Int} (h : i.natAbs < 2 ^ 1900) : Okd 0 1921 (.int i) := by
  have hl : i.natAbs.log2 < 1920 := PySem.Flt.log2_lt_of (by decide) (Nat.lt_of_lt_of_le h (Nat.pow_le_pow_right (by decide) (by decide)))
  refine ⟨by simp [PyData.showable, hl], by simp [PyData.hasDict], by simp [PyData.depth], ?_⟩
  have := int_text_len_1921 hl
  simpa [PyData.shown] using this
theorem okd_all {m L : Nat} : ∀ xs : List PyData, (∀ x ∈ xs, Okd m L x) → PyData.showableAll xs = true ∧ PyData.hasDictAll xs = false ∧ PyData.depthAll xs ≤ m ∧ ((PyData.shownAll xs).map (·.length)).sum ≤ xs.length * L ∧ (PyData.shownAll xs).length = xs.length
  | [], _ => by simp [PyData.showableAll, PyData.hasDictAll, PyData.depthAll, PyData.shownAll]
  | x :: xs, h => by
    have h1 := h x List.mem_cons_self
    obtain ⟨a1, a2, a3, a4, a5⟩ := okd_all xs fun y hy => h y (List.mem_cons_of_mem _ hy)
    refine ⟨by simp [PyData.showableAll, h1.sh, a1], by simp [PyData.hasDictAll, h1.nd, a2], ?_, ?_, ?_⟩
    · simp only [PyData.depthAll]
      exact Nat.max_le.mpr ⟨h1.dp, a3⟩
    · simp only [PyData.shownAll, List.map_cons, List.sum_cons, List.length_cons, Nat.succ_mul]
      have := h1.ln
      omega
    · simp only [PyData.shownAll, List.length_cons, a5]
theorem okd_tup {m L : Nat} (xs : List PyData) (hl : xs.length ≤ 4) (h : ∀ x ∈ xs, Okd m L x) : Okd (m + 1) (4 * L + 11) (.tuple xs) := by
  obtain ⟨a1, a2, a3, a4, a5⟩ := okd_all xs h
  refine ⟨by simpa [PyData.showable] using a1, by simpa [PyData.hasDict] using a2, ?_, ?_⟩
  · simp only [PyData.depth]
    omega
  · simp only [PyData.shown]
    have := tupleText_len_le (PyData.shownAll xs)
    rw [a5] at this
    have h4 := Nat.mul_le_mul_right L hl
    omega
theorem Okd.mono {m L m' L' : Nat} {d : PyData} (h : Okd m L d) (hm : m ≤ m') (hL : L ≤ L') : Okd m' L' d := ⟨h.sh, h.nd, Nat.le_trans h.dp hm, Nat.le_trans h.ln hL⟩
theorem okd_R {q : Rat} (h : Sz 1000 1000 q) : Okd 1 8000 (eR q) := by
  refine (okd_tup (m := 0) (L := 1921) _ (by show 2 ≤ 4; decide) fun x hx => ?_).mono (Nat.le_refl 1) (by decide)
  simp only [List.mem_cons, List.not_mem_nil, or_false] at hx
  rcases hx with rfl | rfl
  · exact okd_int (Nat.lt_of_lt_of_le h.1 (Nat.pow_le_pow_right (by decide) (by decide)))
  · exact okd_int (by rw [Int.natAbs_natCast]; exact Nat.lt_of_lt_of_le h.2 (Nat.pow_le_pow_right (by decide) (by decide)))
theorem okd_row {n : Nat} {f : Nat → Rat} (hn : n ≤ 4) (h : ∀ j, j < n → Sz 1000 1000 (f j)) : Okd 2 40000 (eRow (row n f)) := by
  refine (okd_tup (m := 1) (L := 8000) _ (by rw [List.length_map, row_len]; exact hn) fun x hx => ?_).mono (Nat.le_refl 2) (by decide : 4 * 8000 + 11 ≤ 40000)
  obtain ⟨q, hq, rfl⟩ := List.mem_map.mp hx
  obtain ⟨j, hj, rfl⟩ := row_mem hq
  exact okd_R (h j hj)
theorem okd_cho {h : Hs} {c : List Nat} (ok : HsOk h) (hc : ChoOk h c) : Okd 2 40000 (eCho c) := by
  have n4 := ok.n4
  rw [eCho_row hc.len]
  refine (okd_tup (m := 0) (L := 1921) _ (by rw [List.length_map, List.length_range]; exact n4) fun x hx => ?_).mono (by decide) (by decide : 4 * 1921 + 11 ≤ 40000)
  obtain ⟨i, hi, rfl⟩ := List.mem_map.mp hx
  have hi := List.mem_range.mp hi
  have := hc.lt i hi
  have := (ok.s1 _ (stand_mem hi)).2.1
  exact okd_int (Nat.lt_of_lt_of_le (by omega : ((c.getD i 0 : Nat) : Int).natAbs < 2 ^ 3) (Nat.pow_le_pow_right (by decide) (by decide)))
theorem okd_told {h : Hs} {f : Nat → Rat} {c : List Nat} (ok : HsOk h) (hf : ∀ j, j < h.n → Sz 1000 1000 (f j)) (hc : ChoOk h c) : Okd 3 200000 (.tuple [eRow (row h.n f), eCho c]) := by
  refine (okd_tup (m := 2) (L := 40000) _ (by show 2 ≤ 4; decide) fun x hx => ?_).mono (Nat.le_refl 3) (by decide : 4 * 40000 + 11 ≤ 200000)
  simp only [List.mem_cons, List.not_mem_nil, or_false] at hx
  rcases hx with rfl | rfl
  · exact okd_row ok.n4 hf
  · exact okd_cho ok hc
section
variable {X : Cx} {e : Expr} {es : List Sl} {p pos : Pos} {d : PyData} {m L k : Nat}
theorem ev_reprD (gd : X.A.guards = some []) (hr : Room k X.A) (hg : Gl X "repr") (hm : X.mg "repr" = none) (h : Eval X e es (Is d)) (hd : ∃ xs, d = .tuple xs) (o : Okd m L d) (h1 : m ≤ 64) (h2 : L ≤ 200000) (he : starEach [e] X.env = (false, eval e X.env) :: starEach [] X.env := by rfl) (hpl : (backTo pos (starEach [] X.env)).any (·.1) = false := by rfl) : Eval X (.Call (.Name "repr" p) [e] [] pos) es (Is (.str d.shown)) :=
  ev_repr gd (by have := hr.un; omega) hg hm h hd o.sh o.nd (Nat.le_trans o.dp h1) (Nat.le_trans (Nat.le_trans o.ln h2) (by decide)) he hpl
end
section
variable {P : Program} {w : World} {K : PySem.W.Frag} {mg : Str → Option Value} {base : Heap}
def R_is_best (ds : List PyData) (PP : PyData → Prop) : Prop := ∃ (h : Hs) (wt : List Rat) (c : List Nat), ds = [eHs h, eRow wt, eRow (row h.n (hts h wt c)), .tuple [eRow (row h.n (hts h wt c)), eCho c]] ∧ HsOk h ∧ WOk h wt ∧ ChoOk h c ∧ PP = Is (.bool true)
theorem ok_law_is_best {f : Addr} {fd : FuncData} (B : Bt K mg) (F : Fun K "_law_is_best" "_law_is_best" s_law_is_best f fd) (Gt : KP P w K mg base "_law_is_tuple" 1 ["_law_thing", "_law_wide"] R_tup) (Gc : KP P w K mg base "_law_is_chosen" 2 ["_law_world_here", "_law_thing"] R_is_chosen) (Gh : KP P w K mg base "_law_heights" 5 ["_law_world_here", "_law_by", "_law_chosen"] R_ww) : FnG P w K mg base 6 f fd ["_law_world_here", "_law_by", "_law_tops_here", "_law_told"] (spP K R_is_best) := by
  refine fnG_pure (N := n_law_is_best) F c_law_is_best (fun ds PP h => ?_) (fun cv A ou s H E hr gd ds PP h => ?_)
  · obtain ⟨h, wt, c, rfl, _⟩ := h
    rfl
  · obtain ⟨h, wt, c, rfl, ok, ow, hc, rfl⟩ := h
    have hz : ∀ j, j < h.n → Sz 1000 1000 (hts h wt c j) := fun j hj => hts_sz ok ow hc hj
    have o1 := okd_row (n := h.n) ok.n4 hz
    refine x_if (Pc := IsB false) (N1 := fun es1 => es1 = entry n_law_is_best.length [eHs h, eRow wt, eRow (row h.n (hts h wt c)), .tuple [eRow (row h.n (hts h wt c)), eCho c]]) (et_w (ew_or (P1 := IsB false) (et_notB (k := true) (et_is (ev_call (Gt.mono (by decide : 1 ≤ 5)) hr rfl (ea_cons (nm 3) (ea_cons ev_int ea_nil)) ⟨_, 2, rfl, rfl⟩)))
      (fun _ => ew_or (P1 := IsB false) (EvalT.to (et_neS (ev_reprD gd hr rfl B.repr (ev_ixT (nm 3) ev_int rfl) ⟨_, rfl⟩ o1 (by decide) (by decide)) (ev_reprD gd hr rfl B.repr (nm 2) ⟨_, rfl⟩ o1 (by decide) (by decide))) (by rw [decide_eq_true rfl]; rfl))
        (fun _ => ew_or1 (et_notB (k := true) (et_is (ev_call (Gc.mono (by decide : 2 ≤ 5)) hr rfl (ea_cons (nm 0) (ea_cons (ev_ixT (nm 3) ev_int rfl) ea_nil)) ⟨h, c, rfl, ok, hc, rfl⟩)))) (fun h => nomatch h)) (fun h => nomatch h))) (fun h => nomatch h) (fun _ => x_nil rfl) ?_
    rintro es1 rfl
    refine x_retIs (Eval.to (ev_eqD hr.units (ev_call Gh hr rfl (ea_cons (nm 0) (ea_cons (nm 1) (ea_cons (ev_ixT (nm 3) ev_int rfl) ea_nil))) ⟨h, wt, c, rfl, ok, ow, hc, rfl⟩) (nm 2) (shaped_Row _) (shaped_Row _)) ?_) rfl
    rw [eqv_Row, decide_eq_true rfl]
end
end Dh

set_option maxHeartbeats 400000
/-! One lap. -/
namespace Ab
open PySem PySem.Spec PyProof.Rows L2
theorem KnG.mono {P : Program} {w : World} {K : PySem.W.Frag} {mg : Str → Option Value} {base : Heap} {nm : Str} {j k : Nat} {ps : List Str} {sp : Sp} (F : KnG P w K mg base nm j ps sp) (h : j ≤ k) : KnG P w K mg base nm k ps sp := by
  obtain ⟨f, fd, h1, h2, h3, h4⟩ := F
  exact ⟨f, fd, h1, h2, h3, h4.mono h⟩
end Ab
namespace Dh
open PySem PySem.Spec PyProof.Rows L2 Ab
theorem dot_small {x y : List Rat} (hx : SmallG x) (hy : SmallG y) (hl : x.length ≤ 3) : DotOk x y ∧ Sz 80 40 (dotR x y) := by
  refine ⟨DotOk_of (a := 24) (b := 24) (fun q hq => (hx q hq).mono (by decide) (by decide)) (fun q hq => (hy q hq).mono (by decide) (by decide)) (by omega) (by decide), ?_⟩
  have hp : ∀ z ∈ (x.zip y).map fun p : Rat × Rat => p.1 * p.2, Sz 48 12 z := fun z hz => by
    obtain ⟨p, hp, rfl⟩ := List.mem_map.mp hz
    exact (hx _ (zip_mem_l hp)).mul (hy _ (zip_mem_r hp))
  have hn : ((x.zip y).map fun p : Rat × Rat => p.1 * p.2).length ≤ 3 := by
    rw [List.length_map, List.length_zip]
    omega
  unfold dotR
  generalize (x.zip y).map (fun p : Rat × Rat => p.1 * p.2) = l at hp hn
  match l, hp, hn with
  | [], _, _ => exact ⟨by decide +kernel, by decide +kernel⟩
  | [a], hp, _ =>
    rw [sumR_cons, sumR_nil]
    have h1 := hp a (by simp)
    have h0 : Sz 1 1 (0 : Rat) := ⟨by decide +kernel, by decide +kernel⟩
    exact (h1.add h0).mono (by decide) (by decide)
  | [a, b], hp, _ =>
    rw [sumR_cons, sumR_cons, sumR_nil]
    have h1 := hp a (by simp)
    have h2 := hp b (by simp)
    have h0 : Sz 1 1 (0 : Rat) := ⟨by decide +kernel, by decide +kernel⟩
    exact (h1.add (h2.add h0)).mono (by decide) (by decide)
  | [a, b, c], hp, _ =>
    rw [sumR_cons, sumR_cons, sumR_cons, sumR_nil]
    have h1 := hp a (by simp)
    have h2 := hp b (by simp)
    have h3 := hp c (by simp)
    have h0 : Sz 1 1 (0 : Rat) := ⟨by decide +kernel, by decide +kernel⟩
    exact (h1.add (h2.add (h3.add h0))).mono (by decide) (by decide)
  | _ :: _ :: _ :: _ :: _, _, hn => exact absurd hn (by simp)
theorem wok_of {h : Hs} {wt : List Rat} (hl : wt.length = h.k) (hk : h.k ≤ 3) (hw : SmallG wt) (hg : ∀ s ∈ h.st, ∀ d ∈ s, SmallG d.ga) : WOk h wt :=
  ⟨hl, fun x hx => (hw x hx).mono (by decide) (by decide), fun s hs d hd => dot_small hw (hg s hs d hd) (by omega)⟩
theorem one_small : SmallG [1] := fun x hx => by
  rw [List.mem_singleton.mp hx]
  exact ⟨by decide +kernel, by decide +kernel⟩
theorem best_is {h : Hs} {wt : List Rat} (ok : HsOk h) (ow : WOk h wt) : ∃ c, IsBest h wt c ∧ ChoOk h c := by
  obtain ⟨m, hm⟩ := itr_fix ok ow
  exact ⟨itr h wt m, ⟨m, rfl, hm⟩, itr_cho ok m⟩
theorem hts_one {h : Hs} {wt : List Rat} {c : List Nat} (ok : HsOk h) (ow : WOk h wt) (hc : ChoOk h c) {i : Nat} (hi : i < h.n) : hts (dress h wt) [1] c i = hts h wt c i := by
  rw [← hts_dress ok ow hc hi]
  show dotR [1] (row 1 _) = _
  unfold dotR
  show sumR [1 * elm (tabl (dress h wt) c) (dress h wt).n i ((dress h wt).n + 0)] = _
  rw [sumR_cons, sumR_nil, dress_n]
  show 1 * elm (tabl (dress h wt) c) h.n i h.n + 0 = _
  grind
theorem dress_best {h : Hs} {wt : List Rat} {c c' : List Nat} (ok : HsOk h) (ow : WOk h wt) (hb : IsBest h wt c) (hc : ChoOk h c) (hb' : IsBest (dress h wt) [1] c') (hc' : ChoOk (dress h wt) c') : row (dress h wt).n (hts (dress h wt) [1] c') = row h.n (hts h wt c') ∧ row h.n (hts h wt c) = row h.n (hts h wt c') := by
  obtain ⟨ok', ow'⟩ := dress_ok ok ow
  have hch := cho_dress hc'
  refine ⟨?_, row_congr fun i hi => ?_⟩
  · rw [dress_n]
    exact row_congr fun i hi => hts_one ok ow hch hi
  · obtain ⟨m, _, f1⟩ := hb
    obtain ⟨m', _, f2⟩ := hb'
    have a1 : hts h wt c' i ≤ hts h wt c i := best_top ok ow hc f1 hch hi
    have a2 := best_top ok' ow' hc' f2 (dress_cho (wt := wt) hc) (i := i) (by rw [dress_n]; exact hi)
    rw [hts_one ok ow hc hi, hts_one ok ow hch hi] at a2
    exact Rat.le_antisymm a2 a1
theorem three : ∀ d ∈ ([.tuple [.int 3, .int 3], .tuple [.int 3, .int 3], .tuple [.int 4, .int 2]] : List PyData), ∃ m e : Nat, d = .tuple [.int (m : Int), .int (e : Int)] ∧ 1 ≤ m ∧ m ≤ 4 ∧ 1 ≤ e ∧ e ≤ 4 := by
  intro d hd
  simp only [List.mem_cons, List.not_mem_nil, or_false] at hd
  rcases hd with rfl | rfl | rfl
  · exact ⟨3, 3, rfl, by decide⟩
  · exact ⟨3, 3, rfl, by decide⟩
  · exact ⟨4, 2, rfl, by decide⟩
section
variable {P : Program} {w : World} {K : PySem.W.Frag} {mg : Str → Option Value} {base : Heap}
def R_right (ds : List PyData) (PP : PyData → Prop) : Prop := ds = [] ∧ PP = Is (.bool true)
theorem ok_law_right {f : Addr} {fd : FuncData} (B : Bt K mg) (F : Fun K "_law_right" "_law_right" s_law_right f fd) (Ga : KS P w K mg base "_law_any_of" 2 ["_law_spring_here", "_law_some"] R_any_of) (Gp : KS P w K mg base "_law_pick" 1 ["_law_spring_here", "_law_limit"] R_pick) (Gw : KS P w K mg base "_law_world" 5 ["_law_spring_here", "_law_most_here", "_law_deeds", "_law_pays"] R_world) (Gg : KS P w K mg base "_law_gains" 3 ["_law_spring_here", "_law_pays"] R_gains)
    (Gt : KP P w K mg base "_law_tops" 6 ["_law_world_here", "_law_by"] R_tops) (Gb : KP P w K mg base "best" 10 ["house", "weights"] R_best_by) (Gk : KnK P w K mg base "best" "house" "weights" 10 (spP K R_best_by)) (Gd : KP P w K mg base "weighted" 9 ["house", "weights"] R_weighted_by) (Gi : KnG P w K mg base "_law_is_best" 6 ["_law_world_here", "_law_by", "_law_tops_here", "_law_told"] (spP K R_is_best)) :
    FnG P w K mg base 11 f fd ["_law_spring_here"] (spS K R_right) := by
  refine fnG_spr (N := n_law_right) F c_law_right (fun ds PP h => ?_) (fun cv A ou s H E hr gd ds PP h => ?_)
  · obtain ⟨rfl, _⟩ := h
    rfl
  · obtain ⟨rfl, rfl⟩ := h
    refine x_tgt (ix := [1, 2]) (P := fun d => d ∈ ([.tuple [.int 3, .int 3], .tuple [.int 3, .int 3], .tuple [.int 4, .int 2]] : List PyData)) (ev_callS (Ga.mono (by decide : 2 ≤ 10)) hr rfl (i := 0) rfl rfl (.inl rfl) (ea_cons (ev_tup (ea_consT (ev_tup (ea_cons ev_int (ea_cons ev_int ea_nil))) (ea_consT (ev_tup (ea_cons ev_int (ea_cons ev_int ea_nil))) (ea_consT (ev_tup (ea_cons ev_int (ea_cons ev_int ea_nil))) ea_nil)))) ea_nil) ⟨_, rfl, by decide, by decide, rfl⟩) ?_
    intro d hd
    obtain ⟨m, e, rfl, m1, m4, e1, e4⟩ := three d hd
    refine ⟨_, tg_pair (i := 1) (j := 2) rfl c_law_right.nd rfl (.inl rfl) (.inl rfl) rfl (.inl rfl) (.inl rfl), ?_⟩
    refine x_set (i := 3) (P := fun d => ∃ k, k ≤ 3 ∧ PWorld k d) c_law_right.nd rfl (.inl rfl) (.inl rfl) (ev_callSP (PA := fun ds => ∃ k : Nat, ds = [.int (m : Int), .int (e : Int), .int (k : Int)] ∧ 1 ≤ k ∧ k ≤ 3) (Gw.mono (by decide : 5 ≤ 10)) hr rfl (i := 0) rfl rfl (.inl rfl) (ea_consP (PA := fun ds => ∃ k : Nat, ds = [.int (e : Int), .int (k : Int)] ∧ 1 ≤ k ∧ k ≤ 3) (nm 1) (ea_consP (PA := fun ds => ∃ k : Nat, ds = [.int (k : Int)] ∧ 1 ≤ k ∧ k ≤ 3) (nm 2) (ea_consP (ei_add (r := fun j => 1 ≤ j ∧ j ≤ 3) (ei_is (p := fun j => j = 1) ev_int rfl) (ev_pick (i := 0) (n := 3) Gp hr rfl rfl rfl (.inl rfl) ev_int (by decide) (by decide) (by decide)) fun i j hi hj => by
      obtain ⟨j0, j1⟩ := hj
      exact ⟨by omega, by omega⟩) ea_nil ?_) ?_) ?_) ?_) ?_
    · rintro _ _ ⟨j, rfl, j0, j1⟩ rfl
      exact ⟨j.toNat, congrArg (fun z => [PyData.int z]) (by omega), by omega, by omega⟩
    · rintro _ _ rfl ⟨k, rfl, k1, k3⟩
      exact ⟨k, rfl, k1, k3⟩
    · rintro _ _ rfl ⟨k, rfl, k1, k3⟩
      exact ⟨k, rfl, k1, k3⟩
    · rintro _ ⟨k, rfl, k1, k3⟩
      exact ⟨_, ⟨m, e, k, rfl, m1, m4, e1, e4, k1, k3, rfl⟩, fun d hd => ⟨k, k3, hd⟩⟩
    rintro _ ⟨k, k3, h, rfl, ok, rfl, hg⟩
    refine x_parP (i := 4) (j := 5) (P1 := fun d => ∃ l : List Rat, d = eRow l ∧ l.length = h.k ∧ SmallG l) (P2 := PWorld 1) c_law_right.nd (by decide) (ev_callS (Gg.mono (by decide : 3 ≤ 10)) hr rfl (i := 0) rfl rfl (.inl rfl) (ea_cons (ev_ixT (nm 3) ev_int rfl) ea_nil) ⟨h.k, rfl, by omega, rfl⟩) (ev_callS (Gw.mono (by decide : 5 ≤ 10)) hr rfl (i := 0) rfl rfl (.inl rfl) (ea_cons ev_int (ea_cons ev_int (ea_cons ev_int ea_nil))) ⟨2, 2, 1, rfl, by decide, by decide, by decide, by decide, by decide, by decide, rfl⟩) ?_
    rintro _ _ ⟨wt, rfl, wl, ws⟩ ⟨h2, rfl, ok2, k2, hg2⟩
    have ow := wok_of wl k3 ws hg
    have ow2 : WOk h2 [1] := wok_of (by rw [k2]; rfl) (by omega) one_small hg2
    obtain ⟨c, cb, cc⟩ := best_is ok ow
    obtain ⟨c2, cb2, cc2⟩ := best_is ok2 ow2
    obtain ⟨ok', ow'⟩ := dress_ok ok ow
    obtain ⟨c3, cb3, cc3⟩ := best_is ok' ow'
    have toB : ∀ {g : Hs} {v : List Rat} {a : List Nat}, IsBest g v a → ∀ d, (∃ c, IsBest g v c ∧ ChoOk g c ∧ d = .tuple [eRow (row g.n (hts g v c)), eCho c]) → Is (.tuple [eRow (row g.n (hts g v a)), eCho a]) d := fun {g v a} ha d ⟨b, hb, _, e⟩ => by
      have := hb.one ha
      rw [this] at e
      exact e
    have toT : ∀ {g : Hs} {v : List Rat} {a : List Nat}, IsBest g v a → ∀ d, (∀ c, IsBest g v c → d = eRow (row g.n (hts g v c))) → Is (eRow (row g.n (hts g v a))) d := fun {g v a} ha d hd => hd a ha
    refine x_parP (i := 6) (j := 7) (P1 := Is (eRow (row h.n (hts h wt c)))) (P2 := Is (.tuple [eRow (row h.n (hts h wt c)), eCho c])) c_law_right.nd (by decide) (Eval.weak (ev_call (Gt.mono (by decide : 6 ≤ 10)) hr rfl (ea_cons (nm 3) (ea_cons (nm 4) ea_nil)) ⟨h, wt, rfl, ok, ow, rfl⟩) (toT cb)) (Eval.weak (ev_call Gb hr rfl (ea_cons (nm 3) (ea_cons (nm 4) ea_nil)) ⟨h, wt, rfl, ok, ow, rfl⟩) (toB cb)) ?_
    rintro _ _ rfl rfl
    refine x_if (Pc := IsB false) (N1 := fun es1 => es1 = [.spr, .val (.int (m : Int)), .val (.int (e : Int)), .val (eHs h), .val (eRow wt), .val (eHs h2), .val (eRow (row h.n (hts h wt c))), .val (.tuple [eRow (row h.n (hts h wt c)), eCho c])]) (et_notB (k := true) (et_is (ev_callG (Gi.mono (by decide : 6 ≤ 10)) hr gd rfl (ea_cons (nm 3) (ea_cons (nm 4) (ea_cons (nm 6) (ea_cons (nm 7) ea_nil)))) ⟨h, wt, c, rfl, ok, ow, cc, rfl⟩))) (fun h => nomatch h) (fun _ => x_nil rfl) ?_
    rintro es1 rfl
    refine x_if (Pc := IsB false) (N1 := fun es1 => es1 = [.spr, .val (.int (m : Int)), .val (.int (e : Int)), .val (eHs h), .val (eRow wt), .val (eHs h2), .val (eRow (row h.n (hts h wt c))), .val (.tuple [eRow (row h.n (hts h wt c)), eCho c])]) (et_notB (k := true) (et_is (ev_callG (ds := [eHs h2, eRow [1], eRow (row h2.n (hts h2 [1] c2)), .tuple [eRow (row h2.n (hts h2 [1] c2)), eCho c2]]) (Gi.mono (by decide : 6 ≤ 10)) hr gd rfl (ea_cons (nm 5) (ea_cons ?_ (ea_cons (Eval.weak (ev_call (Gt.mono (by decide : 6 ≤ 10)) hr rfl (ea_cons (nm 5) (ea_cons (d := eRow [1]) ?_ ea_nil)) ⟨h2, [1], rfl, ok2, ow2, rfl⟩) (toT cb2)) (ea_cons (Eval.weak (ev_callK (d1 := eRow [1]) (f := 0) (fd := fd) Gk hr rfl ?_ (nm 5) ⟨h2, [1], rfl, ok2, ow2, rfl⟩) (toB cb2)) ea_nil)))) ⟨h2, [1], c2, rfl, ok2, ow2, cc2, rfl⟩))) (fun h => nomatch h) (fun _ => x_nil rfl) ?_
    · exact ev_tup (ea_consT (ev_tup (ea_cons ev_int (ea_cons ev_int ea_nil))) ea_nil)
    · exact ev_tup (ea_consT (ev_tup (ea_cons ev_int (ea_cons ev_int ea_nil))) ea_nil)
    · exact ev_tup (ea_consT (ev_tup (ea_cons ev_int (ea_cons ev_int ea_nil))) ea_nil)
    rintro es1 rfl
    obtain ⟨q1, q2⟩ := dress_best ok ow cb cc cb3 cc3
    refine x_if (Pc := IsB false) (N1 := fun es1 => es1 = [.spr, .val (.int (m : Int)), .val (.int (e : Int)), .val (eHs h), .val (eRow wt), .val (eHs h2), .val (eRow (row h.n (hts h wt c))), .val (.tuple [eRow (row h.n (hts h wt c)), eCho c])]) (et_notB (k := true) (et_is (ev_callG (ds := [eHs h, eRow wt, eRow (row h.n (hts h wt c3)), .tuple [eRow (row h.n (hts h wt c3)), eCho c3]]) (Gi.mono (by decide : 6 ≤ 10)) hr gd rfl (ea_cons (nm 3) (ea_cons (nm 4) (ea_cons (Eval.to (nm 6) (by rw [q2])) (ea_cons (Eval.to (Eval.weak (ev_call Gb hr rfl (ea_cons (ev_call (Gd.mono (by decide : 9 ≤ 10)) hr rfl (ea_cons (nm 3) (ea_cons (nm 4) ea_nil)) ⟨h, wt, rfl, ok, ow, rfl⟩) (ea_cons (d := eRow [1]) ?_ ea_nil)) ⟨dress h wt, [1], rfl, ok', ow', rfl⟩) (toB cb3)) (by rw [q1])) ea_nil)))) ⟨h, wt, c3, rfl, ok, ow, cho_dress cc3, rfl⟩))) (fun h => nomatch h) (fun _ => x_nil rfl) ?_
    · exact ev_tup (ea_consT (ev_tup (ea_cons ev_int (ea_cons ev_int ea_nil))) ea_nil)
    rintro es1 rfl
    have od := okd_told ok (fun j hj => hts_sz ok ow cc hj) cc
    refine x_retIs (Eval.to (ev_eqS (ev_reprD gd hr rfl B.repr (Eval.weak (ev_callK (d1 := eRow wt) (f := 0) (fd := fd) Gk hr rfl (nm 4) (nm 3) ⟨h, wt, rfl, ok, ow, rfl⟩) (toB cb)) ⟨_, rfl⟩ od (by decide) (by decide)) (ev_reprD gd hr rfl B.repr (nm 7) ⟨_, rfl⟩ od (by decide) (by decide))) (by rw [decide_eq_true rfl])) rfl
end
end Dh

set_option maxHeartbeats 400000
/-! The spring of a lap; the law. -/
namespace Ab
open PySem PySem.Spec PyProof.Rows L2
def entryC (n : Nat) (ns : List Int) (ds : List PyData) : List Sl := Sl.scr ns :: (ds.map Sl.val ++ List.replicate (n - (ds.length + 1)) Sl.no)
section
variable {P : Program} {w : World} {K : PySem.W.Frag} {mg : Str → Option Value} {base : Heap}
theorem hid_nil (H : Hp) : hid H [] = H := by
  funext b
  unfold hid
  rw [if_neg (by simp)]
theorem st_scr {N : List Str} {a : Addr} {ns : List Int} {vs : List V} {ds : List PyData} {H : Hp} (hs : SqL K H a (ns.map V.int)) (r : RpAll K H vs ds) : StO K ⟨H, [], none⟩ [] H (start N (.ref a :: vs)) (entryC N.length ns ds) where
  sub := fun _ h => h
  occ := fun b hb => by cases hb
  frm := fun _ _ _ h => h
  spr := fun _ h => nomatch h
  slot := fun i e he => by
    cases i with
    | zero =>
      have e' : Sl.scr ns = e := Option.some.inj he
      subst e'
      exact ⟨a, start_get rfl, by rw [hid_nil]; exact hs⟩
    | succ i =>
      have he' : (entry (N.length - 1) ds)[i]? = some e := by
        unfold entry
        have e1 : N.length - 1 - ds.length = N.length - (ds.length + 1) := by omega
        rw [e1]
        exact he
      rcases entry_get he' with ⟨d, hd, rfl⟩ | rfl
      · obtain ⟨v, hv, rv⟩ := r.get hd
        exact ⟨v, start_get (i := i + 1) hv, by rw [hid_nil]; exact rv⟩
      · trivial
  dist := fun i j xs ys a h1 h2 h3 h4 => by
    cases i with
    | zero =>
      have e' := Option.some.inj h1
      cases e'
    | succ i =>
      have he' : (entry (N.length - 1) ds)[i]? = some (.own xs) := by
        unfold entry
        have e1 : N.length - 1 - ds.length = N.length - (ds.length + 1) := by omega
        rw [e1]
        exact h1
      rcases entry_get he' with ⟨d, _, e⟩ | e <;> cases e
  len := by
    unfold L2.start entryC
    simp only [List.length_append, List.length_cons, List.length_map, List.length_replicate, r.length]
    omega
  o0 := fun b hb => by cases hb
/-- the spring's promise: a new list of three ints -/
def spSp (K : PySem.W.Frag) : Sp := fun vs H Q _ => ∃ (a : Addr) (ns : List Int) (l : Nat), vs = [.ref a, .int (l : Int)] ∧ SqL K H a (ns.map V.int) ∧
  ∀ (p : Addr) (x y z : Int) (H' : Hp), Same H H' → H p = none → H' p = some (.lst [.int x, .int y, .int z]) → Q (.ref p) H'
/-- the law's promise -/
def spLaw (K : PySem.W.Frag) : Sp := fun vs H Q _ => ∃ (a : Addr) (ns : List Int), vs = [.ref a] ∧ SqL K H a (ns.map V.int) ∧ ns.length ≤ 63 ∧ ∀ H', Q (.bl true) H'
variable {X : Cx} {es : List Sl} {e : Expr} {pos p px : Pos} {i : Nat} {x : Str} {ns : List Int}
theorem sq_at {O : List Addr} {H : Hp} {a : Addr} {xs : List V} (h : SqL K (hid H O) a xs) : SqL K H a xs := by
  rcases h with (h | ⟨o, h⟩) | h
  · exact .inl (.inl (hid_sub _ _ _ _ h))
  · exact .inl (.inr ⟨o, hid_sub _ _ _ _ h⟩)
  · exact .inr h
theorem ev_lenScr (hg : Gl X "len") (hm : X.mg "len" = none) (he : es[i]? = some (.scr ns)) (hN : X.N[i]? = some x) (hv : Vis X.env.scope x) (hd : (x == ("__debug__" : Str)) = false := by decide) (hcd : (x == ("__classdict__" : Str)) = false := by decide)
    (hs : starEach [.Name x px] X.env = (false, eval (.Name x px) X.env) :: starEach [] X.env := by rfl) (hpl : (backTo pos (starEach [] X.env)).any (·.1) = false := by rfl) : Eval X (.Call (.Name "len" p) [.Name x px] [] pos) es (Is (.int (ns.length : Int))) := fun W O σ H S Q q => by
  obtain ⟨a, e1, h1⟩ := S.slot i _ he
  refine tes_of (pe_callB call_len_seq hg hm (by decide +kernel) (pa_cons (pe_var hN hv hd hcd) pa_nil hs) (by decide) (by decide) hs hpl) ⟨_, e1, a, ns.map V.int, rfl, .inl (sq_at h1), ?_⟩
  rw [List.length_map]
  exact q _ H _ (Fx.refl W H) S rfl (.int _)
/-- right(spring(script, lap)) -/
theorem ev_lap {l : Nat} {nR nS : Str} {j k : Nat} {ps qs : List Str} {p1 p2 p3 : Pos} {R : List PyData → (PyData → Prop) → Prop} {PP : PyData → Prop} (FR : KnG X.prog X.w X.K X.mg X.base nR k ps (spS X.K R)) (FS : Kn X.prog X.w X.K X.mg X.base nS j qs (spSp X.K)) (hr : Room k X.A) (hr2 : Room j X.A) (gd : X.A.guards = some []) (hgR : Gl X nR) (hgS : Gl X nS) (he : es[i]? = some (.scr ns)) (hN : X.N[i]? = some x) (hv : Vis X.env.scope x) (hl : Eval X e es (Is (.int (l : Int)))) (hR : R [] PP)
    (hd : (x == ("__debug__" : Str)) = false := by decide) (hcd : (x == ("__classdict__" : Str)) = false := by decide) (hdR : (nR == ("__debug__" : Str)) = false := by decide) (hdS : (nS == ("__debug__" : Str)) = false := by decide)
    (s1 : starEach [.Call (.Name nS p1) [.Name x px, e] [] p2] X.env = (false, eval (.Call (.Name nS p1) [.Name x px, e] [] p2) X.env) :: starEach [] X.env := by rfl) (s2 : starEach [.Name x px, e] X.env = (false, eval (.Name x px) X.env) :: starEach [e] X.env := by rfl) (s3 : starEach [e] X.env = (false, eval e X.env) :: starEach [] X.env := by rfl)
    (b1 : (backTo pos (starEach [] X.env)).any (·.1) = false := by rfl) (b2 : (backTo p2 (starEach [e] X.env)).any (·.1) = false := by rfl) :
    Eval X (.Call (.Name nR p3) [.Call (.Name nS p1) [.Name x px, e] [] p2] [] pos) es PP := fun W O σ H S Q q => by
  obtain ⟨f, fd, m1, m2, m3, FR⟩ := FR
  obtain ⟨g, gf, n1, n2, n3, FS⟩ := FS
  obtain ⟨a, e1, h1⟩ := S.slot i _ he
  refine tes_of (pe_callG FR hr gd hgR m1 m2 m3 (pa_cons (pe_call (CX := CX0) (E := E0) FS hr2 hgS n1 n2 n3 .nil pass0 (pa_cons (pe_var hN hv hd hcd) (pa_cons pe_s pa_nil s3) s2) hdS s2 b2) pa_nil s1) hdR s1 b1) ?_
  refine ⟨_, e1, hl W O σ H S _ fun v H1 d f1 S1 q1 r1 => ?_⟩
  have q1' : d = .int (l : Int) := q1
  subst q1'
  cases r1
  obtain ⟨a', e1', h1'⟩ := S1.slot i _ he
  have ea : a = a' := V.ref.inj (Option.some.inj (Option.some.inj (e1.symm.trans e1')))
  subst ea
  refine ⟨a, ns, l, rfl, sq_at h1', fun b y1 y2 y3 H2 sm hb hb2 => ?_⟩
  refine ⟨b :: O, b, [], [], PP, rfl, List.mem_cons_self, ⟨y1, y2, y3, hb2⟩, fun c hc => ?_, .nil, hR, fun v H3 dd keep _ pp rr => ?_⟩
  · rcases List.mem_cons.mp hc with z | z
    · rw [z, hb2]
      exact fun z => nomatch z
    · cases e : H1 c with
      | none => exact absurd e (S1.occ c z)
      | some o =>
        rw [sm c o e]
        exact fun z => nomatch z
  · have fx : Fx W H1 H3 := fun c o _ ec => keep c o (fun z => by rw [z, hb] at ec; cases ec) (sm c o ec)
    refine q v H3 dd (f1.trans fx) (S1.fx fx fun c hc => ?_) pp (rr.mono (hid_mono fun c hc => List.mem_cons_of_mem _ hc))
    obtain ⟨z1, z2, z3, ec⟩ := (S1.spr c hc).2
    exact ⟨z1, z2, z3, keep c _ (fun z => by rw [z, hb] at ec; cases ec) (sm c _ ec)⟩
end
end Ab
namespace Dh
open PySem PySem.Spec PyProof.Rows L2 Ab
section
variable {P : Program} {w : World} {K : PySem.W.Frag} {mg : Str → Option Value} {base : Heap}
theorem ok_law_spring {f : Addr} {fd : FuncData} (B : Bt K mg) (F : Fun K "_law_spring" "_law_spring" s_law_spring f fd) : FnOk P w K mg base CX0 1 f fd ["_law_script", "_law_lap"] (spSp K) := by
  refine F.ok c_law_spring (fun vs H Q E h => ?_) (fun cdv A outer s H vs Q E hr h => ?_)
  · obtain ⟨a, ns, l, rfl, _⟩ := h
    rfl
  · obtain ⟨a, ns, l, rfl, hs, q⟩ := h
    have main : Exec (cxOf CX0 P w K mg base n_law_spring "_law_spring" (defScope s_law_spring) f cdv A outer s H E).nox (defBody s_law_spring) (entryC n_law_spring.length ns [.int (l : Int)]) (fun _ => False) ⟨fun d => ∃ x y z : Int, d = .list [.int x, .int y, .int z], true⟩ := by
      have any : ∀ i j : Int, AnyI i → AnyI j → AnyI (i + j) := fun _ _ _ _ => trivial
      refine x_set (i := 2) (P := IntP AnyI) c_law_spring.nd rfl (.inl rfl) (.inl rfl) (ei_add (ei_is (p := AnyI) ev_int trivial) (ei_mul (r := AnyI) (ei_is (p := fun j => j = 9973) ev_int rfl) (ei_is (p := AnyI) (nm 1) trivial) fun i j hi _ => ⟨.inl (by rw [hi]; decide), trivial⟩) any) ?_
      rintro _ ⟨m0, rfl, _⟩
      refine x_for (PI := Ab.IsL ((ns.take 9).map .int)) PassesOwn.never rfl (it_list (EvalN.is (en_scr (i := 0) (n := 9) rfl rfl (.inl rfl) ev_int))) (fun _ _ es => ∃ (m : Int) (e3 : Sl), es = [.scr ns, .val (.int (l : Int)), .val (.int m), e3, .no]) (fun items p => ⟨m0, _, rfl⟩) (fun items p i d es1 hd ⟨m, e3, he⟩ => ?_) (fun items p es1 ⟨m, e3, he⟩ => ?_)
      · have p' := p
        unfold Ab.IsL at p'
        subst p' he
        obtain ⟨hi, rfl⟩ := get_of_map hd
        refine ⟨_, _, tg_name (i := 3) c_law_spring.nd rfl (.inl rfl) (.inl rfl), ?_⟩
        refine x_set (i := 2) (P := IntP AnyI) c_law_spring.nd rfl (.inl rfl) (.inl rfl) (ei_mod (r := AnyI) (ei_int1 rfl B.int (ei_add (r := AnyI) (ei_add (r := AnyI) (ei_mul (r := AnyI) (ei_is (p := AnyI) (nm 2) trivial) (ei_is (p := fun j => j = 52711) ev_int rfl) fun i j _ hj => ⟨.inr (by rw [hj]; decide), trivial⟩) (ei_mul (r := AnyI) (ei_mod (r := AnyI) (ei_int1 rfl B.int (ei_is (p := AnyI) (nm 3) trivial)) (ei_is (p := fun j => j = 2147483579) ev_int rfl) fun i j _ hj => ⟨by rw [hj]; decide, trivial⟩) (ei_is (p := fun j => j = 5) ev_int rfl) fun i j _ hj => ⟨.inr (by rw [hj]; decide), trivial⟩) any) (ei_is (p := AnyI) ev_int trivial) any)) (ei_is (p := fun j => j = 2147483579) ev_int rfl) fun i j _ hj => ⟨by rw [hj]; decide, trivial⟩) ?_
        rintro _ ⟨m', rfl, _⟩
        exact x_nil ⟨m', _, rfl⟩
      · have p' := p
        unfold Ab.IsL at p'
        subst p' he
        refine x_set (i := 4) (P := IntP AnyI) c_law_spring.nd rfl (.inl rfl) (.inl rfl) (ev_if (et_lt (nm 1) (ev_lenScr (i := 0) rfl B.len rfl rfl (.inl rfl))) (fun hb => ?_) (fun _ => ei_is ev_int trivial)) ?_
        · have hlt : l < ns.length := by
            have := of_decide_eq_true hb.symm
            omega
          exact ei_int1 rfl B.int (ei_is (ev_scrIx (i := 0) rfl rfl (.inl rfl) (nm 1) (atI_nat (List.getElem?_eq_getElem hlt))) trivial)
        rintro _ ⟨ow, rfl, _⟩
        refine x_set (i := 2) (P := IntP AnyI) c_law_spring.nd rfl (.inl rfl) (.inl rfl) (ei_mod (r := AnyI) (ei_int1 rfl B.int (ei_add (r := AnyI) (ei_add (r := AnyI) (ei_mul (r := AnyI) (ei_is (p := AnyI) (nm 2) trivial) (ei_is (p := fun j => j = 41) ev_int rfl) fun i j _ hj => ⟨.inr (by rw [hj]; decide), trivial⟩) (ei_mul (r := AnyI) (ei_mod (r := AnyI) (ei_int1 rfl B.int (ei_is (p := AnyI) (nm 4) trivial)) (ei_is (p := fun j => j = 2147483579) ev_int rfl) fun i j _ hj => ⟨by rw [hj]; decide, trivial⟩) (ei_is (p := fun j => j = 30103) ev_int rfl) fun i j _ hj => ⟨.inr (by rw [hj]; decide), trivial⟩) any) (ei_is (p := AnyI) ev_int trivial) any)) (ei_is (p := fun j => j = 2147483579) ev_int rfl) fun i j _ hj => ⟨by rw [hj]; decide, trivial⟩) ?_
        rintro _ ⟨m2, rfl, _⟩
        refine x_retN (el_lstP (PA := fun ds => ∃ x y z : Int, ds = [.int x, .int y, .int z]) (ea_consP (PA := fun ds => ∃ y z : Int, ds = [.int y, .int z]) (Pa := IntP AnyI) (ev_if (Pc := fun _ => True) (et_w (ew_or (P1 := fun _ => True) (EvalT.weak (et_lt (nm 4) ev_int) fun _ _ => trivial) (fun _ => ew_or1 (EvalT.weak (et_ge (nm 4) (ev_op op_pow ev_int ev_int (by rintro _ _ rfl rfl; exact opd_I (C := CPow) (i := 10) (j := 15) ⟨by decide, by decide, by decide⟩))) fun _ _ => trivial)) (fun _ => trivial))) (fun _ => ei_is (ev_callB call_abs rfl B.abs (by decide +kernel) (ea_cons (nm 4) ea_nil) (by rintro _ rfl; exact cd_abs) (by decide) (by decide)) trivial) (fun _ => ei_is ev_int trivial)) (ea_consP (PA := fun ds => ∃ z : Int, ds = [.int z]) (nm 2) (ea_consP ev_int ea_nil ?_) ?_) ?_) ?_) ?_
        · rintro _ _ rfl rfl
          exact ⟨0, rfl⟩
        · rintro _ _ rfl ⟨z, rfl⟩
          exact ⟨_, z, rfl⟩
        · rintro _ _ ⟨x, rfl, _⟩ ⟨y, z, rfl⟩
          exact ⟨x, y, z, rfl⟩
        · rintro _ ⟨x, y, z, rfl⟩
          show 3 ≤ 1000
          decide
        · rintro _ ⟨x, y, z, rfl⟩
          exact ⟨x, y, z, rfl⟩
    refine ⟨_, pss_s, main ⟨H, [], none⟩ [] (start n_law_spring [.ref a, .int (l : Int)]) H (st_scr hs (.cons (.int _) .nil)) _ (fun _ _ _ _ n _ _ => n.elim) fun v H' rt => ?_⟩
    obtain ⟨d, ⟨x, y, z, rfl⟩, rd⟩ := rt.dat
    obtain ⟨p, rfl, hp⟩ := rt.new rfl
    refine q p x y z H' (fun b o e => rt.frm b o (fun z => nomatch z) e) hp ?_
    rw [hid_nil] at rd
    cases rd with
    | lst hl ra =>
      have := RpAll.intsOf (ns := [x, y, z]) ra
      rw [this] at hl
      exact hl
theorem ok_law {f : Addr} {fd : FuncData} (B : Bt K mg) (F : Fun K "law" "law" s_law f fd) (FR : KnG P w K mg base "_law_right" 11 ["_law_spring_here"] (spS K R_right)) (FS : Kn P w K mg base "_law_spring" 1 ["_law_script", "_law_lap"] (spSp K)) : FnG P w K mg base 12 f fd ["_law_script"] (spLaw K) := by
  refine fnG_of F c_law (fun vs H Q E h => ?_) (fun cv A ou s0 H Vs Q E hr gd h => ?_)
  · obtain ⟨a, ns, rfl, _⟩ := h
    rfl
  · obtain ⟨a, ns, rfl, hs, hl, q⟩ := h
    have main : Exec (cxOf CX0 P w K mg base n_law "law" (defScope s_law) f cv A ou s0 H E).nox (defBody s_law) (entryC n_law.length ns []) (fun _ => False) ⟨Is (.bool true), false⟩ := by
      obtain ⟨m, em, m3⟩ : ∃ m : Nat, (if ((if (2 : Int) < (ns.length : Int) then 2 else (ns.length : Int)) : Int) > 1 then (if (2 : Int) < (ns.length : Int) then 2 else (ns.length : Int)) else 1) = (m : Int) ∧ m ≤ 3 := by
        refine ⟨(if ((if (2 : Int) < (ns.length : Int) then 2 else (ns.length : Int)) : Int) > 1 then (if (2 : Int) < (ns.length : Int) then 2 else (ns.length : Int)) else 1 : Int).toNat, ?_, ?_⟩
        · split <;> split <;> omega
        · split <;> split <;> omega
      refine x_retIs (ev_allT (xs := List.range m) rfl rfl B.all (lc1 (xs := List.range m) (enc := fun (i : Nat) => .int (i : Int)) (g := fun _ => .bool true) 1 c_law.nd (IterL.c (it_rangeE (n := m) rfl B.range (Eval.to (ev_callB (call_max2 rfl) rfl B.max (by decide +kernel) (ea_cons ev_int (ea_cons (ev_callB (call_min2 rfl) rfl B.min (by decide +kernel) (ea_cons (ev_lenScr (i := 0) rfl B.len rfl rfl (.inr (.inl rfl))) (ea_cons ev_int ea_nil)) (by rintro _ rfl; exact cd_min2) (by decide) (by decide)) ea_nil)) (by rintro _ rfl; exact cd_max2) (by decide) (by decide)) (congrArg PyData.int em)) (by omega))) (blkOk_by (N := n_law) (sc := defScope s_law) (by decide +kernel)) (by rw [List.length_range]; omega) fun i hi s0 H0 C cl fp => ?_)) rfl
      exact ev_lap (i := 0) FR FS hr (hr.mono (by decide : 1 ≤ 11)) gd rfl rfl rfl rfl (by first | exact Or.inl rfl | exact Or.inr (Or.inl rfl) | exact Or.inr (Or.inr rfl)) (nm 1) ⟨rfl, rfl⟩
    refine ⟨_, pss_s, main ⟨H, [], none⟩ [] (start n_law [.ref a]) H (st_scr hs .nil) _ (fun _ _ _ _ n _ _ => n.elim) fun v H' rt => ?_⟩
    obtain ⟨d, rfl, rd⟩ := rt.dat
    cases rd
    exact q H'
end
end Dh

set_option maxHeartbeats 400000
/-! The law behind the top, its frames' guards known. -/
namespace Ab
open PySem PySem.Spec PyProof.Rows L2
theorem lawG_call {P : Program} {w : World} {K : PySem.W.Frag} {mg mb : Str → Option Value} {k : Nat} {fa sc : Addr} {fd : FuncData} {x : Str} {sp : Sp} {t : Shared} {us : List Value} {ns : List Int}
    (inK : K.In t.heap) (nsM : t.heap.Ns mainGlobals mg) (nsB : t.heap.Ns builtinsNs mb) (boot : ∀ x : Str, x ≠ "__name__" → mb x = bootBuiltins x) (free : t.heap.NoLimit) (nog : t.gens = #[])
    (isL : t.heap.get? sc = some { cls := .type "list", data := .seq us.toArray }) (isI : IntsAre us ns) (few : ns.length ≤ sizeLine) (room : Room k callerA)
    (F : ∀ base : Heap, K.In base → base.Ns mainGlobals mg → FnG P w K mg base k fa fd [x] sp) (bnd : ∀ (s : Shared) (u : Value), BindsTo s fd ⟨[u], []⟩ [(x, u)])
    (hsp : ∀ H : Hp, SqL K H sc (ns.map V.int) → sp [.ref sc] H (fun v _ => v = .bl true) fun _ _ _ => False) :
    codeAny (model P w) callerA (.call (.ref fa) ⟨[.ref sc], []⟩) (fun r s' => r = .ok (.ret (.bool true)) ∧ OldK t.heap s'.heap ∧ s'.os = t.os ∧ AllBare s'.gens) t := by
  have vals := vals_ints isI
  have same := isI.length
  obtain ⟨HH, eH⟩ : ∃ HH : Hp, HH = fun b => if b = sc ∧ K.lookup sc = none then some (.frz { cls := .type "list", data := .seq us.toArray } (.lst (ns.map V.int))) else none := ⟨_, rfl⟩
  have off : ∀ b, b ≠ sc → HH b = none := fun b hb => by
    rw [eH]
    exact if_neg fun z => hb z.1
  have onn : K.lookup sc = none → HH sc = some (.frz { cls := .type "list", data := .seq us.toArray } (.lst (ns.map V.int))) := fun z => by
    rw [eH]
    exact if_pos ⟨rfl, z⟩
  have out : K.lookup sc ≠ none → ∀ b, HH b = none := fun z b => by
    rw [eH]
    exact if_neg fun y => z y.2
  have what : ∀ b u, HH b = some u → b = sc ∧ K.lookup sc = none ∧ u = .frz { cls := .type "list", data := .seq us.toArray } (.lst (ns.map V.int)) := fun b u z => by
    by_cases hb : b = sc
    · by_cases hk : K.lookup sc = none
      · rw [hb, onn hk] at z
        exact ⟨hb, hk, (Option.some.inj z).symm⟩
      · rw [out hk b] at z
        cases z
    · rw [off b hb] at z
      cases z
  have hok : HOk P w HH t.heap := fun b u z => by
    obtain ⟨e1, _, e2⟩ := what b u z
    subst e1 e2
    refine ⟨isL, ?_, us, _, vals, isL⟩
    rw [List.length_map]
    exact few
  have sq : SqL K HH sc (ns.map V.int) := by
    cases hk : K.lookup sc with
    | none => exact Or.inl (Or.inr ⟨_, onn hk⟩)
    | some o =>
      have e := inK sc o hk
      rw [isL] at e
      have e' := Option.some.inj e
      subst e'
      exact Or.inr ⟨_, us.toArray, _, hk, rfl, rfl, rfl, by rw [List.size_toArray, same]; exact few, by simpa using vals⟩
  have keepD : ∀ {b : Addr} {o : Obj} {ds : Array DictEntry} {q : Nat}, t.heap.get? b = some o → o.data = .dict ds q → HH b = none := fun {b o ds q} hb hd => by
    refine off b fun z => ?_
    rw [z, isL] at hb
    have hb' := Option.some.inj hb
    rw [← hb'] at hd
    cases hd
  have nsOf : ∀ {b : Addr} {m : Str → Option Value}, t.heap.Ns b m → (hidT t.heap HH).Ns b m := fun {b m} z => by
    obtain ⟨o, ds, q, h1, h2, h3⟩ := z
    exact ⟨o, ds, q, hidT_get h1 (keepD h1 h2), h2, h3⟩
  have inB : K.In (hidT t.heap HH) := fun b o z => by
    refine hidT_get (inK b o z) ?_
    by_cases hb : b = sc
    · refine out (fun y => ?_) b
      rw [hb, y] at z
      cases z
    · exact off b hb
  have modl : Mod K mg (hidT t.heap HH) := by
    obtain ⟨mc, f1, f2⟩ := free
    exact ⟨inB, nsOf nsM, ⟨mb, nsOf nsB, boot⟩, ⟨mc, nsOf f1, f2⟩⟩
  have env : Env0 P w K mg (hidT t.heap HH) callerA [] t HH := ⟨rfl, modl, fun b o z => of_hidT z, Nat.le_of_eq (hidT_size _ _), trivial, fun b hb => absurd (show b ∈ ([] : List Addr) from hb) List.not_mem_nil, hok, .of_eq nog⟩
  refine codeAny_mono ((F _ inB (nsOf nsM)).go callerA [] t HH ⟨[.ref sc], []⟩ [.ref sc] [.ref sc] _ _ room rfl env (bnd t (.ref sc)) (.cons rfl .nil) (hsp HH sq)) ?_
  intro r t2 z
  cases r with
  | error er => exact False.elim z
  | ok fl =>
    cases fl with
    | next => exact False.elim z
    | brk => exact False.elim z
    | cont => exact False.elim z
    | ret u =>
      obtain ⟨v, H2, o1, o2, un, o3, rv, ev⟩ := z
      have ev' : v = .bl true := ev
      subst ev'
      have eu : u = Value.bool true := rv
      subst eu
      refine ⟨rfl, OldK.of_keep fun b o hb => ?_, o1, o2⟩
      cases hH : HH b with
      | none => exact un.keep b o hb hH (fun y => absurd (show b ∈ ([] : List Addr) from y) List.not_mem_nil) List.not_mem_nil
      | some y =>
        obtain ⟨_, _, e3⟩ := what b y hH
        rw [e3] at hH
        have k2 := un.frzs b _ _ hH
        obtain ⟨g1, _⟩ := hok b _ hH
        obtain ⟨g2, _⟩ := o3 b _ k2
        rw [hb] at g1
        cases g1
        exact g2
theorem lawG_walk {l : PySem.W.OpenLaw} {n k : Nat} {q : Program} {loose : List Str} {XP : (Str → Option Value) → Heap → Prop} {YP : World → Heap → Prop} {d : DefRec} {K : Params → PySem.W.Frag} {x : Str}
    (most : l.most = some n) (le : n ≤ 63) (nodef : d.params.defaults = []) (room : Room k callerA) (toK : ∀ (w : World) (h : Heap), YP w h → (K w.params).In h)
    (F : ∀ (w : World) (mg : Str → Option Value) (fa : Addr) (h : Heap), (K w.params).In h → h.Ns mainGlobals mg → mg d.name = some (.ref fa) →
      ∃ fd : FuncData, (∀ (s : Shared) (u : Value), BindsTo s fd ⟨[u], []⟩ [(x, u)]) ∧ ∀ base : Heap, (K w.params).In base → base.Ns mainGlobals mg → FnG l.prog w (K w.params) mg base k fa fd [x] (spLaw (K w.params))) :
    PySem.W.WalkO q loose XP YP l.row.toRowW d [] (fun f vs => PySem.call f vs) := by
  refine Att.attach_call most nodef fun w t0 t mg mb fa o pm cd doc sc us ns G Y ho hd hcd hmg hobj hints hlen hgn => ?_
  have inK := toK w _ Y
  obtain ⟨fd, bnd, hF⟩ := F w mg fa _ inK G.T.g hmg
  exact lawG_call inK G.T.g G.T.b G.T.builtins G.T.nolimit hgn hobj hints (Nat.le_trans hlen (Nat.le_trans le (by decide))) room hF bnd fun H sq => ⟨sc, ns, rfl, sq, Nat.le_trans hlen le, fun _ => rfl⟩
end Ab

set_option maxHeartbeats 4000000
/-! All defs together: printed by gen27.py. -/
namespace Dh
open PySem PySem.Spec PyProof.Rows L2 Ab
/-- a def as the top leaves it -/
def DK (K : PySem.W.Frag) (nm : Str) (st : Stmt) : Prop := ∃ (f : Addr) (oc : Value) (od : Option Addr) (kV dc pm : Value) (an : Option Addr) (cd ct : Value) (sl : Array (Option Value)),
  PySem.W.nsIn K mainGlobals nm = some (some (.ref f)) ∧ K.lookup f = some ⟨oc, od, .func (PySem.W.fnOf nm nm (defArgs st) (defBody st) (defScope st) .none kV dc pm an cd ct), sl⟩ ∧ PySem.W.codeIn K cd nm = true ∧ PySem.W.keepIn K (.ref f) = true
theorem DK.to {K : PySem.W.Frag} {h : Heap} {mg : Str → Option Value} {nm : Str} {st : Stmt} (X : K.In h) (G : h.Ns mainGlobals mg) (D : DK K nm st) : ∃ (f : Addr) (fd : FuncData), Fun K nm nm st f fd ∧ mg nm = some (.ref f) := by
  obtain ⟨f, oc, od, kV, dc, pm, an, cd, ct, sl, a, l, c, k⟩ := D
  exact ⟨f, _, fun_mk l c k, PySem.W.mg_of X G a⟩
def TK (K : PySem.W.Frag) (nm : Str) (i j : Int) : Prop := ∃ (z : Addr) (od : Option Addr) (t1 t2 : Tok) (n : Nat) (sl : Array (Option Value)), PySem.W.nsIn K mainGlobals nm = some (some (.ref z)) ∧ K.lookup z = some ⟨.type "tuple", od, .seq #[.int i t1, .int j t2] n, sl⟩
theorem TK.to {K : PySem.W.Frag} {h : Heap} {mg : Str → Option Value} {nm : Str} {i j : Int} (X : K.In h) (G : h.Ns mainGlobals mg) (D : TK K nm i j) : ∃ a, mg nm = some (.ref a) ∧ ∀ H : Hp, Rp K H (.ref a) (.tuple [.int i, .int j]) := by
  obtain ⟨z, od, t1, t2, n, sl, a, l⟩ := D
  refine ⟨z, PySem.W.mg_of X G a, fun H => .tup (xs := [.int i, .int j]) (.inr ⟨_, #[.int i t1, .int j t2], n, l, rfl, rfl, by show 2 ≤ 2 ^ 24; decide, ?_⟩) (.cons (.int i) (.cons (.int j) .nil))⟩
  exact .cons ⟨t1, rfl⟩ (.cons ⟨t2, rfl⟩ .nil)
theorem dk_mk {K : PySem.W.Frag} {nm : Str} {st : Stmt} {f : Addr} {oc : Value} {od : Option Addr} {kV dc pm : Value} {an : Option Addr} {cd ct : Value} {sl : Array (Option Value)}
    (a : PySem.W.nsIn K mainGlobals nm = some (some (.ref f))) (l : K.lookup f = some ⟨oc, od, .func (PySem.W.fnOf nm nm (defArgs st) (defBody st) (defScope st) .none kV dc pm an cd ct), sl⟩) (c : PySem.W.codeIn K cd nm = true) (k : PySem.W.keepIn K (.ref f) = true) : DK K nm st := ⟨f, oc, od, kV, dc, pm, an, cd, ct, sl, a, l, c, k⟩
theorem tk_mk {K : PySem.W.Frag} {nm : Str} {i j : Int} {z : Addr} {od : Option Addr} {t1 t2 : Tok} {n : Nat} {sl : Array (Option Value)} (a : PySem.W.nsIn K mainGlobals nm = some (some (.ref z))) (l : K.lookup z = some ⟨.type "tuple", od, .seq #[.int i t1, .int j t2] n, sl⟩) : TK K nm i j := ⟨z, od, t1, t2, n, sl, a, l⟩
theorem ik_mk {K : PySem.W.Frag} {nm : Str} {i : Int} {t : Tok} (a : PySem.W.nsIn K mainGlobals nm = some (some (.int i t))) : ∃ t, PySem.W.nsIn K mainGlobals nm = some (some (.int i t)) := ⟨t, a⟩
theorem best_kw {K : PySem.W.Frag} {f : Addr} {fd : FuncData} (F : Fun K "best" "best" s_best f fd) (s : Shared) (a b : Value) : BindsTo s fd ⟨[], [("weights", a), ("house", b)]⟩ [("house", b), ("weights", a)] := by
  obtain ⟨c1, c2, c3, c4, c5, c6, c7, c8, c9, e, _⟩ := F.ex
  subst e
  exact .of_eq rfl
theorem law_bind {K : PySem.W.Frag} {f : Addr} {fd : FuncData} (F : Fun K "law" "law" s_law f fd) (s : Shared) (v : Value) : BindsTo s fd ⟨[v], []⟩ [("_law_script", v)] := by
  obtain ⟨c1, c2, c3, c4, c5, c6, c7, c8, c9, e, _⟩ := F.ex
  subst e
  exact .of_eq rfl
theorem law_mk {l : PySem.W.OpenLaw} {w : World} {K : PySem.W.Frag} {h : Heap} {mg : Str → Option Value} {fa : Addr} (X : K.In h) (G : h.Ns mainGlobals mg) (hfa : mg "law" = some (.ref fa))
    (b_len : PySem.W.nsIn K mainGlobals "len" = some none)
    (b_range : PySem.W.nsIn K mainGlobals "range" = some none)
    (b_zip : PySem.W.nsIn K mainGlobals "zip" = some none)
    (b_enumerate : PySem.W.nsIn K mainGlobals "enumerate" = some none)
    (b_tuple : PySem.W.nsIn K mainGlobals "tuple" = some none)
    (b_list : PySem.W.nsIn K mainGlobals "list" = some none)
    (b_all : PySem.W.nsIn K mainGlobals "all" = some none)
    (b_isinstance : PySem.W.nsIn K mainGlobals "isinstance" = some none)
    (b_int : PySem.W.nsIn K mainGlobals "int" = some none)
    (b_bool : PySem.W.nsIn K mainGlobals "bool" = some none)
    (b_abs : PySem.W.nsIn K mainGlobals "abs" = some none)
    (b_max : PySem.W.nsIn K mainGlobals "max" = some none)
    (b_min : PySem.W.nsIn K mainGlobals "min" = some none)
    (b_sum : PySem.W.nsIn K mainGlobals "sum" = some none)
    (b_divmod : PySem.W.nsIn K mainGlobals "divmod" = some none)
    (b_repr : PySem.W.nsIn K mainGlobals "repr" = some none)
    (b_gcd : PySem.W.nsIn K mainGlobals "gcd" = some (some (.builtin "math.gcd"))) (t_zero : TK K "ZERO" 0 1) (t_one : TK K "ONE" 1 1)
    (i_pays : ∃ t, PySem.W.nsIn K mainGlobals "MOST_PAYS" = some (some (.int 4 t))) (i_stands : ∃ t, PySem.W.nsIn K mainGlobals "MOST_STANDS" = some (some (.int 8 t))) (i_deeds : ∃ t, PySem.W.nsIn K mainGlobals "MOST_DEEDS" = some (some (.int 4 t)))
    (d_ratio : DK K "ratio" s_ratio)
    (d_plus : DK K "plus" s_plus)
    (d_minus : DK K "minus" s_minus)
    (d_times : DK K "times" s_times)
    (d_over : DK K "over" s_over)
    (d_is_less : DK K "is_less" s_is_less)
    (d__law_below : DK K "_law_below" s_law_below)
    (d__law_frac : DK K "_law_frac" s_law_frac)
    (d_is_whole : DK K "is_whole" s_is_whole)
    (d__law_is_whole : DK K "_law_is_whole" s_law_is_whole)
    (d_is_tuple_of : DK K "is_tuple_of" s_is_tuple_of)
    (d__law_is_tuple : DK K "_law_is_tuple" s_law_is_tuple)
    (d_total : DK K "total" s_total)
    (d_dot : DK K "dot" s_dot)
    (d_scaled : DK K "scaled" s_scaled)
    (d_joined : DK K "joined" s_joined)
    (d_noughts : DK K "noughts" s_noughts)
    (d_mean : DK K "mean" s_mean)
    (d_plain_odds : DK K "plain_odds" s_plain_odds)
    (d_less_row : DK K "less_row" s_less_row)
    (d_is_between : DK K "is_between" s_is_between)
    (d_is_ratio : DK K "is_ratio" s_is_ratio)
    (d_is_row : DK K "is_row" s_is_row)
    (d_least_at : DK K "least_at" s_least_at)
    (d_answers_of : DK K "answers_of" s_answers_of)
    (d_solved_worths : DK K "solved_worths" s_solved_worths)
    (d_are_chances : DK K "are_chances" s_are_chances)
    (d_is_deed : DK K "is_deed" s_is_deed)
    (d_is_stand : DK K "is_stand" s_is_stand)
    (d_is_share : DK K "is_share" s_is_share)
    (d_is_house_by : DK K "is_house_by" s_is_house_by)
    (d_check_house : DK K "check_house" s_check_house)
    (d_check_weights : DK K "check_weights" s_check_weights)
    (d_still_by : DK K "still_by" s_still_by)
    (d_chance_row : DK K "chance_row" s_chance_row)
    (d_odds_mean : DK K "odds_mean" s_odds_mean)
    (d_worths_by : DK K "worths_by" s_worths_by)
    (d_weighted_by : DK K "weighted_by" s_weighted_by)
    (d_gap_by : DK K "gap_by" s_gap_by)
    (d_gaps_by : DK K "gaps_by" s_gaps_by)
    (d_weighted_worths : DK K "weighted_worths" s_weighted_worths)
    (d_turn_by : DK K "turn_by" s_turn_by)
    (d_best_by : DK K "best_by" s_best_by)
    (d_best : DK K "best" s_best)
    (d_weighted : DK K "weighted" s_weighted)
    (d__law_sure : DK K "_law_sure" s_law_sure)
    (d__law_choices : DK K "_law_choices" s_law_choices)
    (d__law_is_chosen : DK K "_law_is_chosen" s_law_is_chosen)
    (d__law_pick : DK K "_law_pick" s_law_pick)
    (d__law_any_of : DK K "_law_any_of" s_law_any_of)
    (d__law_part : DK K "_law_part" s_law_part)
    (d__law_gains : DK K "_law_gains" s_law_gains)
    (d__law_parts : DK K "_law_parts" s_law_parts)
    (d__law_chances : DK K "_law_chances" s_law_chances)
    (d__law_sized : DK K "_law_sized" s_law_sized)
    (d__law_world : DK K "_law_world" s_law_world)
    (d__law_spring : DK K "_law_spring" s_law_spring)
    (d__law_plus : DK K "_law_plus" s_law_plus)
    (d__law_minus : DK K "_law_minus" s_law_minus)
    (d__law_times : DK K "_law_times" s_law_times)
    (d__law_over : DK K "_law_over" s_law_over)
    (d__law_dot : DK K "_law_dot" s_law_dot)
    (d__law_solved : DK K "_law_solved" s_law_solved)
    (d__law_moves : DK K "_law_moves" s_law_moves)
    (d__law_got : DK K "_law_got" s_law_got)
    (d__law_worths : DK K "_law_worths" s_law_worths)
    (d__law_dressed : DK K "_law_dressed" s_law_dressed)
    (d__law_heights : DK K "_law_heights" s_law_heights)
    (d__law_tops : DK K "_law_tops" s_law_tops)
    (d__law_is_best : DK K "_law_is_best" s_law_is_best)
    (d__law_right : DK K "_law_right" s_law_right)
    (d_law : DK K "law" s_law)
    : ∃ fd : FuncData, (∀ (s : Shared) (v : Value), BindsTo s fd ⟨[v], []⟩ [("_law_script", v)]) ∧ ∀ base : Heap, K.In base → base.Ns mainGlobals mg → FnG l.prog w K mg base 12 fa fd ["_law_script"] (spLaw K) := by
  have B : Bt K mg := ⟨PySem.W.mg_none_of X G b_len, PySem.W.mg_none_of X G b_range, PySem.W.mg_none_of X G b_zip, PySem.W.mg_none_of X G b_enumerate, PySem.W.mg_none_of X G b_tuple, PySem.W.mg_none_of X G b_list, PySem.W.mg_none_of X G b_all, PySem.W.mg_none_of X G b_isinstance, PySem.W.mg_none_of X G b_int, PySem.W.mg_none_of X G b_bool, PySem.W.mg_none_of X G b_abs, PySem.W.mg_none_of X G b_max, PySem.W.mg_none_of X G b_min, PySem.W.mg_none_of X G b_sum, PySem.W.mg_none_of X G b_divmod, PySem.W.mg_none_of X G b_repr, PySem.W.mg_of X G b_gcd, t_zero.to X G, t_one.to X G, i_pays.elim fun t z => ⟨t, PySem.W.mg_of X G z⟩, i_stands.elim fun t z => ⟨t, PySem.W.mg_of X G z⟩, i_deeds.elim fun t z => ⟨t, PySem.W.mg_of X G z⟩⟩
  obtain ⟨f_ratio, fd_ratio, F_ratio, m_ratio⟩ := d_ratio.to X G
  obtain ⟨f_plus, fd_plus, F_plus, m_plus⟩ := d_plus.to X G
  obtain ⟨f_minus, fd_minus, F_minus, m_minus⟩ := d_minus.to X G
  obtain ⟨f_times, fd_times, F_times, m_times⟩ := d_times.to X G
  obtain ⟨f_over, fd_over, F_over, m_over⟩ := d_over.to X G
  obtain ⟨f_is_less, fd_is_less, F_is_less, m_is_less⟩ := d_is_less.to X G
  obtain ⟨f__law_below, fd__law_below, F__law_below, m__law_below⟩ := d__law_below.to X G
  obtain ⟨f__law_frac, fd__law_frac, F__law_frac, m__law_frac⟩ := d__law_frac.to X G
  obtain ⟨f_is_whole, fd_is_whole, F_is_whole, m_is_whole⟩ := d_is_whole.to X G
  obtain ⟨f__law_is_whole, fd__law_is_whole, F__law_is_whole, m__law_is_whole⟩ := d__law_is_whole.to X G
  obtain ⟨f_is_tuple_of, fd_is_tuple_of, F_is_tuple_of, m_is_tuple_of⟩ := d_is_tuple_of.to X G
  obtain ⟨f__law_is_tuple, fd__law_is_tuple, F__law_is_tuple, m__law_is_tuple⟩ := d__law_is_tuple.to X G
  obtain ⟨f_total, fd_total, F_total, m_total⟩ := d_total.to X G
  obtain ⟨f_dot, fd_dot, F_dot, m_dot⟩ := d_dot.to X G
  obtain ⟨f_scaled, fd_scaled, F_scaled, m_scaled⟩ := d_scaled.to X G
  obtain ⟨f_joined, fd_joined, F_joined, m_joined⟩ := d_joined.to X G
  obtain ⟨f_noughts, fd_noughts, F_noughts, m_noughts⟩ := d_noughts.to X G
  obtain ⟨f_mean, fd_mean, F_mean, m_mean⟩ := d_mean.to X G
  obtain ⟨f_plain_odds, fd_plain_odds, F_plain_odds, m_plain_odds⟩ := d_plain_odds.to X G
  obtain ⟨f_less_row, fd_less_row, F_less_row, m_less_row⟩ := d_less_row.to X G
  obtain ⟨f_is_between, fd_is_between, F_is_between, m_is_between⟩ := d_is_between.to X G
  obtain ⟨f_is_ratio, fd_is_ratio, F_is_ratio, m_is_ratio⟩ := d_is_ratio.to X G
  obtain ⟨f_is_row, fd_is_row, F_is_row, m_is_row⟩ := d_is_row.to X G
  obtain ⟨f_least_at, fd_least_at, F_least_at, m_least_at⟩ := d_least_at.to X G
  obtain ⟨f_answers_of, fd_answers_of, F_answers_of, m_answers_of⟩ := d_answers_of.to X G
  obtain ⟨f_solved_worths, fd_solved_worths, F_solved_worths, m_solved_worths⟩ := d_solved_worths.to X G
  obtain ⟨f_are_chances, fd_are_chances, F_are_chances, m_are_chances⟩ := d_are_chances.to X G
  obtain ⟨f_is_deed, fd_is_deed, F_is_deed, m_is_deed⟩ := d_is_deed.to X G
  obtain ⟨f_is_stand, fd_is_stand, F_is_stand, m_is_stand⟩ := d_is_stand.to X G
  obtain ⟨f_is_share, fd_is_share, F_is_share, m_is_share⟩ := d_is_share.to X G
  obtain ⟨f_is_house_by, fd_is_house_by, F_is_house_by, m_is_house_by⟩ := d_is_house_by.to X G
  obtain ⟨f_check_house, fd_check_house, F_check_house, m_check_house⟩ := d_check_house.to X G
  obtain ⟨f_check_weights, fd_check_weights, F_check_weights, m_check_weights⟩ := d_check_weights.to X G
  obtain ⟨f_still_by, fd_still_by, F_still_by, m_still_by⟩ := d_still_by.to X G
  obtain ⟨f_chance_row, fd_chance_row, F_chance_row, m_chance_row⟩ := d_chance_row.to X G
  obtain ⟨f_odds_mean, fd_odds_mean, F_odds_mean, m_odds_mean⟩ := d_odds_mean.to X G
  obtain ⟨f_worths_by, fd_worths_by, F_worths_by, m_worths_by⟩ := d_worths_by.to X G
  obtain ⟨f_weighted_by, fd_weighted_by, F_weighted_by, m_weighted_by⟩ := d_weighted_by.to X G
  obtain ⟨f_gap_by, fd_gap_by, F_gap_by, m_gap_by⟩ := d_gap_by.to X G
  obtain ⟨f_gaps_by, fd_gaps_by, F_gaps_by, m_gaps_by⟩ := d_gaps_by.to X G
  obtain ⟨f_weighted_worths, fd_weighted_worths, F_weighted_worths, m_weighted_worths⟩ := d_weighted_worths.to X G
  obtain ⟨f_turn_by, fd_turn_by, F_turn_by, m_turn_by⟩ := d_turn_by.to X G
  obtain ⟨f_best_by, fd_best_by, F_best_by, m_best_by⟩ := d_best_by.to X G
  obtain ⟨f_best, fd_best, F_best, m_best⟩ := d_best.to X G
  obtain ⟨f_weighted, fd_weighted, F_weighted, m_weighted⟩ := d_weighted.to X G
  obtain ⟨f__law_sure, fd__law_sure, F__law_sure, m__law_sure⟩ := d__law_sure.to X G
  obtain ⟨f__law_choices, fd__law_choices, F__law_choices, m__law_choices⟩ := d__law_choices.to X G
  obtain ⟨f__law_is_chosen, fd__law_is_chosen, F__law_is_chosen, m__law_is_chosen⟩ := d__law_is_chosen.to X G
  obtain ⟨f__law_pick, fd__law_pick, F__law_pick, m__law_pick⟩ := d__law_pick.to X G
  obtain ⟨f__law_any_of, fd__law_any_of, F__law_any_of, m__law_any_of⟩ := d__law_any_of.to X G
  obtain ⟨f__law_part, fd__law_part, F__law_part, m__law_part⟩ := d__law_part.to X G
  obtain ⟨f__law_gains, fd__law_gains, F__law_gains, m__law_gains⟩ := d__law_gains.to X G
  obtain ⟨f__law_parts, fd__law_parts, F__law_parts, m__law_parts⟩ := d__law_parts.to X G
  obtain ⟨f__law_chances, fd__law_chances, F__law_chances, m__law_chances⟩ := d__law_chances.to X G
  obtain ⟨f__law_sized, fd__law_sized, F__law_sized, m__law_sized⟩ := d__law_sized.to X G
  obtain ⟨f__law_world, fd__law_world, F__law_world, m__law_world⟩ := d__law_world.to X G
  obtain ⟨f__law_spring, fd__law_spring, F__law_spring, m__law_spring⟩ := d__law_spring.to X G
  obtain ⟨f__law_plus, fd__law_plus, F__law_plus, m__law_plus⟩ := d__law_plus.to X G
  obtain ⟨f__law_minus, fd__law_minus, F__law_minus, m__law_minus⟩ := d__law_minus.to X G
  obtain ⟨f__law_times, fd__law_times, F__law_times, m__law_times⟩ := d__law_times.to X G
  obtain ⟨f__law_over, fd__law_over, F__law_over, m__law_over⟩ := d__law_over.to X G
  obtain ⟨f__law_dot, fd__law_dot, F__law_dot, m__law_dot⟩ := d__law_dot.to X G
  obtain ⟨f__law_solved, fd__law_solved, F__law_solved, m__law_solved⟩ := d__law_solved.to X G
  obtain ⟨f__law_moves, fd__law_moves, F__law_moves, m__law_moves⟩ := d__law_moves.to X G
  obtain ⟨f__law_got, fd__law_got, F__law_got, m__law_got⟩ := d__law_got.to X G
  obtain ⟨f__law_worths, fd__law_worths, F__law_worths, m__law_worths⟩ := d__law_worths.to X G
  obtain ⟨f__law_dressed, fd__law_dressed, F__law_dressed, m__law_dressed⟩ := d__law_dressed.to X G
  obtain ⟨f__law_heights, fd__law_heights, F__law_heights, m__law_heights⟩ := d__law_heights.to X G
  obtain ⟨f__law_tops, fd__law_tops, F__law_tops, m__law_tops⟩ := d__law_tops.to X G
  obtain ⟨f__law_is_best, fd__law_is_best, F__law_is_best, m__law_is_best⟩ := d__law_is_best.to X G
  obtain ⟨f__law_right, fd__law_right, F__law_right, m__law_right⟩ := d__law_right.to X G
  obtain ⟨f_law, fd_law, F_law, m_law⟩ := d_law.to X G
  have e := m_law.symm.trans hfa
  have e2 : f_law = fa := Value.ref.inj (Option.some.inj e)
  subst e2
  refine ⟨fd_law, law_bind F_law, fun base _ _ => ?_⟩
  have G_ratio : Kn l.prog w K mg base "ratio" 1 ["top", "low"] (spP K R_ratio) := ⟨f_ratio, fd_ratio, m_ratio, F_ratio.kp, F_ratio.binds (ps := ["top", "low"]) (fun _ _ _ _ _ _ us hl => match us, hl with | [_, _], _ => rfl), ok_ratio B F_ratio⟩
  have G_plus : Kn l.prog w K mg base "plus" 2 ["one", "two"] (spP K R_plus) := ⟨f_plus, fd_plus, m_plus, F_plus.kp, F_plus.binds (ps := ["one", "two"]) (fun _ _ _ _ _ _ us hl => match us, hl with | [_, _], _ => rfl), ok_plus F_plus G_ratio⟩
  have G_minus : Kn l.prog w K mg base "minus" 2 ["one", "two"] (spP K R_minus) := ⟨f_minus, fd_minus, m_minus, F_minus.kp, F_minus.binds (ps := ["one", "two"]) (fun _ _ _ _ _ _ us hl => match us, hl with | [_, _], _ => rfl), ok_minus F_minus G_ratio⟩
  have G_times : Kn l.prog w K mg base "times" 2 ["one", "two"] (spP K R_times) := ⟨f_times, fd_times, m_times, F_times.kp, F_times.binds (ps := ["one", "two"]) (fun _ _ _ _ _ _ us hl => match us, hl with | [_, _], _ => rfl), ok_times F_times G_ratio⟩
  have G_over : Kn l.prog w K mg base "over" 2 ["one", "two"] (spP K R_over) := ⟨f_over, fd_over, m_over, F_over.kp, F_over.binds (ps := ["one", "two"]) (fun _ _ _ _ _ _ us hl => match us, hl with | [_, _], _ => rfl), ok_over F_over G_ratio⟩
  have G_is_less : Kn l.prog w K mg base "is_less" 1 ["one", "two"] (spP K R_less) := ⟨f_is_less, fd_is_less, m_is_less, F_is_less.kp, F_is_less.binds (ps := ["one", "two"]) (fun _ _ _ _ _ _ us hl => match us, hl with | [_, _], _ => rfl), ok_is_less F_is_less⟩
  have G__law_below : Kn l.prog w K mg base "_law_below" 1 ["_law_x", "_law_y"] (spP K R_less) := ⟨f__law_below, fd__law_below, m__law_below, F__law_below.kp, F__law_below.binds (ps := ["_law_x", "_law_y"]) (fun _ _ _ _ _ _ us hl => match us, hl with | [_, _], _ => rfl), ok_law_below F__law_below⟩
  have G__law_frac : Kn l.prog w K mg base "_law_frac" 1 ["_law_up", "_law_down"] (spP K R_ratio) := ⟨f__law_frac, fd__law_frac, m__law_frac, F__law_frac.kp, F__law_frac.binds (ps := ["_law_up", "_law_down"]) (fun _ _ _ _ _ _ us hl => match us, hl with | [_, _], _ => rfl), ok_law_frac B F__law_frac⟩
  have G_is_whole : Kn l.prog w K mg base "is_whole" 1 ["value"] (spP K R_whole) := ⟨f_is_whole, fd_is_whole, m_is_whole, F_is_whole.kp, F_is_whole.binds (ps := ["value"]) (fun _ _ _ _ _ _ us hl => match us, hl with | [_], _ => rfl), ok_is_whole B F_is_whole⟩
  have G__law_is_whole : Kn l.prog w K mg base "_law_is_whole" 1 ["_law_thing"] (spP K R_whole) := ⟨f__law_is_whole, fd__law_is_whole, m__law_is_whole, F__law_is_whole.kp, F__law_is_whole.binds (ps := ["_law_thing"]) (fun _ _ _ _ _ _ us hl => match us, hl with | [_], _ => rfl), ok_law_is_whole B F__law_is_whole⟩
  have G_is_tuple_of : Kn l.prog w K mg base "is_tuple_of" 1 ["value", "many"] (spP K R_tup) := ⟨f_is_tuple_of, fd_is_tuple_of, m_is_tuple_of, F_is_tuple_of.kp, F_is_tuple_of.binds (ps := ["value", "many"]) (fun _ _ _ _ _ _ us hl => match us, hl with | [_, _], _ => rfl), ok_is_tuple_of B F_is_tuple_of⟩
  have G__law_is_tuple : Kn l.prog w K mg base "_law_is_tuple" 1 ["_law_thing", "_law_wide"] (spP K R_tup) := ⟨f__law_is_tuple, fd__law_is_tuple, m__law_is_tuple, F__law_is_tuple.kp, F__law_is_tuple.binds (ps := ["_law_thing", "_law_wide"]) (fun _ _ _ _ _ _ us hl => match us, hl with | [_, _], _ => rfl), ok_law_is_tuple B F__law_is_tuple⟩
  have G_total : Kn l.prog w K mg base "total" 3 ["fractions"] (spP K R_total) := ⟨f_total, fd_total, m_total, F_total.kp, F_total.binds (ps := ["fractions"]) (fun _ _ _ _ _ _ us hl => match us, hl with | [_], _ => rfl), ok_total B F_total G_plus⟩
  have G_dot : Kn l.prog w K mg base "dot" 4 ["one", "two"] (spP K R_dot) := ⟨f_dot, fd_dot, m_dot, F_dot.kp, F_dot.binds (ps := ["one", "two"]) (fun _ _ _ _ _ _ us hl => match us, hl with | [_, _], _ => rfl), ok_dot B F_dot G_total G_times⟩
  have G_scaled : Kn l.prog w K mg base "scaled" 3 ["row", "number"] (spP K R_scaled) := ⟨f_scaled, fd_scaled, m_scaled, F_scaled.kp, F_scaled.binds (ps := ["row", "number"]) (fun _ _ _ _ _ _ us hl => match us, hl with | [_, _], _ => rfl), ok_scaled B F_scaled G_times⟩
  have G_joined : Kn l.prog w K mg base "joined" 3 ["one", "two"] (spP K R_joined) := ⟨f_joined, fd_joined, m_joined, F_joined.kp, F_joined.binds (ps := ["one", "two"]) (fun _ _ _ _ _ _ us hl => match us, hl with | [_, _], _ => rfl), ok_joined B F_joined G_plus⟩
  have G_noughts : Kn l.prog w K mg base "noughts" 1 ["many"] (spP K R_noughts) := ⟨f_noughts, fd_noughts, m_noughts, F_noughts.kp, F_noughts.binds (ps := ["many"]) (fun _ _ _ _ _ _ us hl => match us, hl with | [_], _ => rfl), ok_noughts B F_noughts⟩
  have G_mean : Kn l.prog w K mg base "mean" 4 ["pairs", "many"] (spP K R_mean) := ⟨f_mean, fd_mean, m_mean, F_mean.kp, F_mean.binds (ps := ["pairs", "many"]) (fun _ _ _ _ _ _ us hl => match us, hl with | [_, _], _ => rfl), ok_mean B F_mean G_noughts G_joined G_scaled⟩
  have G_plain_odds : Kn l.prog w K mg base "plain_odds" 1 ["deed", "many"] (spP K R_plain_odds) := ⟨f_plain_odds, fd_plain_odds, m_plain_odds, F_plain_odds.kp, F_plain_odds.binds (ps := ["deed", "many"]) (fun _ _ _ _ _ _ us hl => match us, hl with | [_, _], _ => rfl), ok_plain_odds B F_plain_odds⟩
  have G_less_row : Kn l.prog w K mg base "less_row" 3 ["row", "lead", "by"] (spP K R_less_row) := ⟨f_less_row, fd_less_row, m_less_row, F_less_row.kp, F_less_row.binds (ps := ["row", "lead", "by"]) (fun _ _ _ _ _ _ us hl => match us, hl with | [_, _, _], _ => rfl), ok_less_row B F_less_row G_minus G_times⟩
  have G_is_between : Kn l.prog w K mg base "is_between" 2 ["value", "low", "high"] (spP K R_between) := ⟨f_is_between, fd_is_between, m_is_between, F_is_between.kp, F_is_between.binds (ps := ["value", "low", "high"]) (fun _ _ _ _ _ _ us hl => match us, hl with | [_, _, _], _ => rfl), ok_is_between B F_is_between G_is_whole⟩
  have G_is_ratio : Kn l.prog w K mg base "is_ratio" 2 ["value"] (spP K R_is_ratio) := ⟨f_is_ratio, fd_is_ratio, m_is_ratio, F_is_ratio.kp, F_is_ratio.binds (ps := ["value"]) (fun _ _ _ _ _ _ us hl => match us, hl with | [_], _ => rfl), ok_is_ratio B F_is_ratio G_is_tuple_of G_is_whole⟩
  have G_is_row : Kn l.prog w K mg base "is_row" 3 ["value", "many"] (spP K R_is_row) := ⟨f_is_row, fd_is_row, m_is_row, F_is_row.kp, F_is_row.binds (ps := ["value", "many"]) (fun _ _ _ _ _ _ us hl => match us, hl with | [_, _], _ => rfl), ok_is_row B F_is_row G_is_tuple_of G_is_ratio⟩
  have G_least_at : Kn l.prog w K mg base "least_at" 2 ["row"] (spP K R_least_at) := ⟨f_least_at, fd_least_at, m_least_at, F_least_at.kp, F_least_at.binds (ps := ["row"]) (fun _ _ _ _ _ _ us hl => match us, hl with | [_], _ => rfl), ok_least_at B F_least_at G_is_less⟩
  have G_answers_of : Kn l.prog w K mg base "answers_of" 4 ["table", "rights"] (spP K R_answers) := ⟨f_answers_of, fd_answers_of, m_answers_of, F_answers_of.kp, F_answers_of.binds (ps := ["table", "rights"]) (fun _ _ _ _ _ _ us hl => match us, hl with | [_, _], _ => rfl), ok_answers_of B F_answers_of G_over G_less_row⟩
  have G_solved_worths : Kn l.prog w K mg base "solved_worths" 5 ["share", "moves", "gains"] (spP K R_solved) := ⟨f_solved_worths, fd_solved_worths, m_solved_worths, F_solved_worths.kp, F_solved_worths.binds (ps := ["share", "moves", "gains"]) (fun _ _ _ _ _ _ us hl => match us, hl with | [_, _, _], _ => rfl), ok_solved_worths B F_solved_worths G_answers_of G_minus G_times⟩
  have G_are_chances : Kn l.prog w K mg base "are_chances" 4 ["value", "stands"] (spP K R_are_chances) := ⟨f_are_chances, fd_are_chances, m_are_chances, F_are_chances.kp, F_are_chances.binds (ps := ["value", "stands"]) (fun _ _ _ _ _ _ us hl => match us, hl with | [_, _], _ => rfl), ok_are_chances B F_are_chances G_is_tuple_of G_is_between G_is_ratio G_total⟩
  have G_is_deed : Kn l.prog w K mg base "is_deed" 5 ["value", "pays", "stands"] (spP K R_is_deed) := ⟨f_is_deed, fd_is_deed, m_is_deed, F_is_deed.kp, F_is_deed.binds (ps := ["value", "pays", "stands"]) (fun _ _ _ _ _ _ us hl => match us, hl with | [_, _, _], _ => rfl), ok_is_deed B F_is_deed G_is_tuple_of G_are_chances G_is_row⟩
  have G_is_stand : Kn l.prog w K mg base "is_stand" 6 ["value", "pays", "stands"] (spP K R_is_stand) := ⟨f_is_stand, fd_is_stand, m_is_stand, F_is_stand.kp, F_is_stand.binds (ps := ["value", "pays", "stands"]) (fun _ _ _ _ _ _ us hl => match us, hl with | [_, _, _], _ => rfl), ok_is_stand B F_is_stand G_is_between G_is_deed⟩
  have G_is_share : Kn l.prog w K mg base "is_share" 3 ["value"] (spP K R_is_share) := ⟨f_is_share, fd_is_share, m_is_share, F_is_share.kp, F_is_share.binds (ps := ["value"]) (fun _ _ _ _ _ _ us hl => match us, hl with | [_], _ => rfl), ok_is_share B F_is_share G_is_ratio⟩
  have G_is_house_by : Kn l.prog w K mg base "is_house_by" 7 ["value"] (spP K R_house) := ⟨f_is_house_by, fd_is_house_by, m_is_house_by, F_is_house_by.kp, F_is_house_by.binds (ps := ["value"]) (fun _ _ _ _ _ _ us hl => match us, hl with | [_], _ => rfl), ok_is_house_by B F_is_house_by G_is_tuple_of G_is_share G_is_between G_is_stand⟩
  have G_check_house : Kn l.prog w K mg base "check_house" 8 ["value"] (spP K R_check_house) := ⟨f_check_house, fd_check_house, m_check_house, F_check_house.kp, F_check_house.binds (ps := ["value"]) (fun _ _ _ _ _ _ us hl => match us, hl with | [_], _ => rfl), ok_check_house B F_check_house G_is_house_by⟩
  have G_check_weights : Kn l.prog w K mg base "check_weights" 3 ["house", "value"] (spP K R_check_weights) := ⟨f_check_weights, fd_check_weights, m_check_weights, F_check_weights.kp, F_check_weights.binds (ps := ["house", "value"]) (fun _ _ _ _ _ _ us hl => match us, hl with | [_, _], _ => rfl), ok_check_weights B F_check_weights G_is_tuple_of G_is_ratio⟩
  have G_still_by : Kn l.prog w K mg base "still_by" 2 ["house", "choice"] (spP K R_still) := ⟨f_still_by, fd_still_by, m_still_by, F_still_by.kp, F_still_by.binds (ps := ["house", "choice"]) (fun _ _ _ _ _ _ us hl => match us, hl with | [_, _], _ => rfl), ok_still_by B F_still_by G_plain_odds⟩
  have G_chance_row : Kn l.prog w K mg base "chance_row" 1 ["chances", "stands"] (spP K R_chance_row) := ⟨f_chance_row, fd_chance_row, m_chance_row, F_chance_row.kp, F_chance_row.binds (ps := ["chances", "stands"]) (fun _ _ _ _ _ _ us hl => match us, hl with | [_, _], _ => rfl), ok_chance_row B F_chance_row⟩
  have G_odds_mean : Kn l.prog w K mg base "odds_mean" 5 ["house", "stand", "odds"] (spP K R_odds_mean) := ⟨f_odds_mean, fd_odds_mean, m_odds_mean, F_odds_mean.kp, F_odds_mean.binds (ps := ["house", "stand", "odds"]) (fun _ _ _ _ _ _ us hl => match us, hl with | [_, _, _], _ => rfl), ok_odds_mean B F_odds_mean G_mean G_chance_row⟩
  have G_worths_by : Kn l.prog w K mg base "worths_by" 6 ["house", "still"] (spP K R_worths_by) := ⟨f_worths_by, fd_worths_by, m_worths_by, F_worths_by.kp, F_worths_by.binds (ps := ["house", "still"]) (fun _ _ _ _ _ _ us hl => match us, hl with | [_, _], _ => rfl), ok_worths_by B F_worths_by G_odds_mean G_solved_worths⟩
  have G_weighted_by : Kn l.prog w K mg base "weighted_by" 5 ["house", "weights"] (spP K R_weighted_by) := ⟨f_weighted_by, fd_weighted_by, m_weighted_by, F_weighted_by.kp, F_weighted_by.binds (ps := ["house", "weights"]) (fun _ _ _ _ _ _ us hl => match us, hl with | [_, _], _ => rfl), ok_weighted_by B F_weighted_by G_dot⟩
  have G_gap_by : Kn l.prog w K mg base "gap_by" 5 ["house", "weights", "worths", "stand", "deed"] (spP K R_gap_by) := ⟨f_gap_by, fd_gap_by, m_gap_by, F_gap_by.kp, F_gap_by.binds (ps := ["house", "weights", "worths", "stand", "deed"]) (fun _ _ _ _ _ _ us hl => match us, hl with | [_, _, _, _, _], _ => rfl), ok_gap_by B F_gap_by G_dot G_total G_times G_minus⟩
  have G_gaps_by : Kn l.prog w K mg base "gaps_by" 6 ["house", "weights", "worths"] (spP K R_gaps_by) := ⟨f_gaps_by, fd_gaps_by, m_gaps_by, F_gaps_by.kp, F_gaps_by.binds (ps := ["house", "weights", "worths"]) (fun _ _ _ _ _ _ us hl => match us, hl with | [_, _, _], _ => rfl), ok_gaps_by B F_gaps_by G_gap_by⟩
  have G_weighted_worths : Kn l.prog w K mg base "weighted_worths" 7 ["house", "weights", "choice"] (spP K R_ww) := ⟨f_weighted_worths, fd_weighted_worths, m_weighted_worths, F_weighted_worths.kp, F_weighted_worths.binds (ps := ["house", "weights", "choice"]) (fun _ _ _ _ _ _ us hl => match us, hl with | [_, _, _], _ => rfl), ok_weighted_worths B F_weighted_worths G_dot G_still_by G_worths_by⟩
  have G_turn_by : Kn l.prog w K mg base "turn_by" 8 ["house", "weights", "choice"] (spP K R_turn_by) := ⟨f_turn_by, fd_turn_by, m_turn_by, F_turn_by.kp, F_turn_by.binds (ps := ["house", "weights", "choice"]) (fun _ _ _ _ _ _ us hl => match us, hl with | [_, _, _], _ => rfl), ok_turn_by B F_turn_by G_gaps_by G_weighted_worths G_least_at⟩
  have G_best_by : Kn l.prog w K mg base "best_by" 9 ["house", "weights"] (spP K R_best_by) := ⟨f_best_by, fd_best_by, m_best_by, F_best_by.kp, F_best_by.binds (ps := ["house", "weights"]) (fun _ _ _ _ _ _ us hl => match us, hl with | [_, _], _ => rfl), ok_best_by B F_best_by G_weighted_worths G_turn_by⟩
  have G_best : Kn l.prog w K mg base "best" 10 ["house", "weights"] (spP K R_best_by) := ⟨f_best, fd_best, m_best, F_best.kp, F_best.binds (ps := ["house", "weights"]) (fun _ _ _ _ _ _ us hl => match us, hl with | [_, _], _ => rfl), ok_best B F_best G_check_house G_check_weights G_best_by⟩
  have KW_best : KnK l.prog w K mg base "best" "house" "weights" 10 (spP K R_best_by) := ⟨f_best, fd_best, m_best, F_best.kp, best_kw F_best, ok_best B F_best G_check_house G_check_weights G_best_by⟩
  have G_weighted : Kn l.prog w K mg base "weighted" 9 ["house", "weights"] (spP K R_weighted_by) := ⟨f_weighted, fd_weighted, m_weighted, F_weighted.kp, F_weighted.binds (ps := ["house", "weights"]) (fun _ _ _ _ _ _ us hl => match us, hl with | [_, _], _ => rfl), ok_weighted B F_weighted G_check_house G_check_weights G_weighted_by⟩
  have G__law_sure : Kn l.prog w K mg base "_law_sure" 1 ["_law_world_here", "_law_chosen"] (spP K R_still) := ⟨f__law_sure, fd__law_sure, m__law_sure, F__law_sure.kp, F__law_sure.binds (ps := ["_law_world_here", "_law_chosen"]) (fun _ _ _ _ _ _ us hl => match us, hl with | [_, _], _ => rfl), ok_law_sure B F__law_sure⟩
  have G__law_choices : Kn l.prog w K mg base "_law_choices" 1 ["_law_world_here"] (spP K R_choices) := ⟨f__law_choices, fd__law_choices, m__law_choices, F__law_choices.kp, F__law_choices.binds (ps := ["_law_world_here"]) (fun _ _ _ _ _ _ us hl => match us, hl with | [_], _ => rfl), ok_law_choices B F__law_choices⟩
  have G__law_is_chosen : Kn l.prog w K mg base "_law_is_chosen" 2 ["_law_world_here", "_law_thing"] (spP K R_is_chosen) := ⟨f__law_is_chosen, fd__law_is_chosen, m__law_is_chosen, F__law_is_chosen.kp, F__law_is_chosen.binds (ps := ["_law_world_here", "_law_thing"]) (fun _ _ _ _ _ _ us hl => match us, hl with | [_, _], _ => rfl), ok_law_is_chosen B F__law_is_chosen G__law_is_tuple G__law_is_whole⟩
  have G__law_pick : Kn l.prog w K mg base "_law_pick" 1 ["_law_spring_here", "_law_limit"] (spS K R_pick) := ⟨f__law_pick, fd__law_pick, m__law_pick, F__law_pick.kp, F__law_pick.binds (ps := ["_law_spring_here", "_law_limit"]) (fun _ _ _ _ _ _ us hl => match us, hl with | [_, _], _ => rfl), ok_law_pick B F__law_pick⟩
  have G__law_any_of : Kn l.prog w K mg base "_law_any_of" 2 ["_law_spring_here", "_law_some"] (spS K R_any_of) := ⟨f__law_any_of, fd__law_any_of, m__law_any_of, F__law_any_of.kp, F__law_any_of.binds (ps := ["_law_spring_here", "_law_some"]) (fun _ _ _ _ _ _ us hl => match us, hl with | [_, _], _ => rfl), ok_law_any_of B F__law_any_of G__law_pick⟩
  have G__law_part : Kn l.prog w K mg base "_law_part" 2 ["_law_spring_here"] (spS K R_part) := ⟨f__law_part, fd__law_part, m__law_part, F__law_part.kp, F__law_part.binds (ps := ["_law_spring_here"]) (fun _ _ _ _ _ _ us hl => match us, hl with | [_], _ => rfl), ok_law_part B F__law_part G__law_pick G__law_frac⟩
  have G__law_gains : Kn l.prog w K mg base "_law_gains" 3 ["_law_spring_here", "_law_pays"] (spS K R_gains) := ⟨f__law_gains, fd__law_gains, m__law_gains, F__law_gains.kp, F__law_gains.binds (ps := ["_law_spring_here", "_law_pays"]) (fun _ _ _ _ _ _ us hl => match us, hl with | [_, _], _ => rfl), ok_law_gains B F__law_gains G__law_pick G__law_any_of G__law_frac⟩
  have G__law_parts : Kn l.prog w K mg base "_law_parts" 2 ["_law_spring_here", "_law_wide"] (spS K R_parts) := ⟨f__law_parts, fd__law_parts, m__law_parts, F__law_parts.kp, F__law_parts.binds (ps := ["_law_spring_here", "_law_wide"]) (fun _ _ _ _ _ _ us hl => match us, hl with | [_, _], _ => rfl), ok_law_parts B F__law_parts G__law_pick⟩
  have G__law_chances : Kn l.prog w K mg base "_law_chances" 3 ["_law_spring_here", "_law_wide"] (spS K R_chances) := ⟨f__law_chances, fd__law_chances, m__law_chances, F__law_chances.kp, F__law_chances.binds (ps := ["_law_spring_here", "_law_wide"]) (fun _ _ _ _ _ _ us hl => match us, hl with | [_, _], _ => rfl), ok_law_chances B F__law_chances G__law_parts G__law_frac⟩
  have G__law_sized : Kn l.prog w K mg base "_law_sized" 4 ["_law_spring_here", "_law_counts", "_law_pays"] (spS K R_sized) := ⟨f__law_sized, fd__law_sized, m__law_sized, F__law_sized.kp, F__law_sized.binds (ps := ["_law_spring_here", "_law_counts", "_law_pays"]) (fun _ _ _ _ _ _ us hl => match us, hl with | [_, _, _], _ => rfl), ok_law_sized B F__law_sized G__law_part G__law_pick G__law_chances G__law_gains⟩
  have G__law_world : Kn l.prog w K mg base "_law_world" 5 ["_law_spring_here", "_law_most_here", "_law_deeds", "_law_pays"] (spS K R_world) := ⟨f__law_world, fd__law_world, m__law_world, F__law_world.kp, F__law_world.binds (ps := ["_law_spring_here", "_law_most_here", "_law_deeds", "_law_pays"]) (fun _ _ _ _ _ _ us hl => match us, hl with | [_, _, _, _], _ => rfl), ok_law_world B F__law_world G__law_pick G__law_sized⟩
  have G__law_spring : Kn l.prog w K mg base "_law_spring" 1 ["_law_script", "_law_lap"] (spSp K) := ⟨f__law_spring, fd__law_spring, m__law_spring, F__law_spring.kp, F__law_spring.binds (ps := ["_law_script", "_law_lap"]) (fun _ _ _ _ _ _ us hl => match us, hl with | [_, _], _ => rfl), ok_law_spring B F__law_spring⟩
  have G__law_plus : Kn l.prog w K mg base "_law_plus" 2 ["_law_x", "_law_y"] (spP K R_plus) := ⟨f__law_plus, fd__law_plus, m__law_plus, F__law_plus.kp, F__law_plus.binds (ps := ["_law_x", "_law_y"]) (fun _ _ _ _ _ _ us hl => match us, hl with | [_, _], _ => rfl), ok_law_plus F__law_plus G__law_frac⟩
  have G__law_minus : Kn l.prog w K mg base "_law_minus" 2 ["_law_x", "_law_y"] (spP K R_minus) := ⟨f__law_minus, fd__law_minus, m__law_minus, F__law_minus.kp, F__law_minus.binds (ps := ["_law_x", "_law_y"]) (fun _ _ _ _ _ _ us hl => match us, hl with | [_, _], _ => rfl), ok_law_minus F__law_minus G__law_frac⟩
  have G__law_times : Kn l.prog w K mg base "_law_times" 2 ["_law_x", "_law_y"] (spP K R_times) := ⟨f__law_times, fd__law_times, m__law_times, F__law_times.kp, F__law_times.binds (ps := ["_law_x", "_law_y"]) (fun _ _ _ _ _ _ us hl => match us, hl with | [_, _], _ => rfl), ok_law_times F__law_times G__law_frac⟩
  have G__law_over : Kn l.prog w K mg base "_law_over" 2 ["_law_x", "_law_y"] (spP K R_over) := ⟨f__law_over, fd__law_over, m__law_over, F__law_over.kp, F__law_over.binds (ps := ["_law_x", "_law_y"]) (fun _ _ _ _ _ _ us hl => match us, hl with | [_, _], _ => rfl), ok_law_over F__law_over G__law_frac⟩
  have G__law_dot : Kn l.prog w K mg base "_law_dot" 3 ["_law_one", "_law_two"] (spP K R_dot) := ⟨f__law_dot, fd__law_dot, m__law_dot, F__law_dot.kp, F__law_dot.binds (ps := ["_law_one", "_law_two"]) (fun _ _ _ _ _ _ us hl => match us, hl with | [_, _], _ => rfl), ok_law_dot B F__law_dot G__law_plus G__law_times⟩
  have G__law_solved : Kn l.prog w K mg base "_law_solved" 3 ["_law_lines"] (spP K R_lsolved) := ⟨f__law_solved, fd__law_solved, m__law_solved, F__law_solved.kp, F__law_solved.binds (ps := ["_law_lines"]) (fun _ _ _ _ _ _ us hl => match us, hl with | [_], _ => rfl), ok_law_solved B F__law_solved G__law_over G__law_minus G__law_times⟩
  have G__law_moves : Kn l.prog w K mg base "_law_moves" 3 ["_law_world_here", "_law_plan"] (spP K R_lmoves) := ⟨f__law_moves, fd__law_moves, m__law_moves, F__law_moves.kp, F__law_moves.binds (ps := ["_law_world_here", "_law_plan"]) (fun _ _ _ _ _ _ us hl => match us, hl with | [_, _], _ => rfl), ok_law_moves B F__law_moves G__law_plus G__law_times⟩
  have G__law_got : Kn l.prog w K mg base "_law_got" 3 ["_law_world_here", "_law_plan"] (spP K R_lgot) := ⟨f__law_got, fd__law_got, m__law_got, F__law_got.kp, F__law_got.binds (ps := ["_law_world_here", "_law_plan"]) (fun _ _ _ _ _ _ us hl => match us, hl with | [_, _], _ => rfl), ok_law_got B F__law_got G__law_plus G__law_times⟩
  have G__law_worths : Kn l.prog w K mg base "_law_worths" 4 ["_law_world_here", "_law_plan"] (spP K R_worths_by) := ⟨f__law_worths, fd__law_worths, m__law_worths, F__law_worths.kp, F__law_worths.binds (ps := ["_law_world_here", "_law_plan"]) (fun _ _ _ _ _ _ us hl => match us, hl with | [_, _], _ => rfl), ok_law_worths B F__law_worths G__law_moves G__law_got G__law_solved G__law_minus G__law_times⟩
  have G__law_dressed : Kn l.prog w K mg base "_law_dressed" 4 ["_law_world_here", "_law_by"] (spP K R_weighted_by) := ⟨f__law_dressed, fd__law_dressed, m__law_dressed, F__law_dressed.kp, F__law_dressed.binds (ps := ["_law_world_here", "_law_by"]) (fun _ _ _ _ _ _ us hl => match us, hl with | [_, _], _ => rfl), ok_law_dressed B F__law_dressed G__law_dot⟩
  have G__law_heights : Kn l.prog w K mg base "_law_heights" 5 ["_law_world_here", "_law_by", "_law_chosen"] (spP K R_ww) := ⟨f__law_heights, fd__law_heights, m__law_heights, F__law_heights.kp, F__law_heights.binds (ps := ["_law_world_here", "_law_by", "_law_chosen"]) (fun _ _ _ _ _ _ us hl => match us, hl with | [_, _, _], _ => rfl), ok_law_heights B F__law_heights G__law_worths G__law_dressed G__law_sure⟩
  have G__law_tops : Kn l.prog w K mg base "_law_tops" 6 ["_law_world_here", "_law_by"] (spP K R_tops) := ⟨f__law_tops, fd__law_tops, m__law_tops, F__law_tops.kp, F__law_tops.binds (ps := ["_law_world_here", "_law_by"]) (fun _ _ _ _ _ _ us hl => match us, hl with | [_, _], _ => rfl), ok_law_tops B F__law_tops G__law_choices G__law_heights G__law_below⟩
  have G__law_is_best : KnG l.prog w K mg base "_law_is_best" 6 ["_law_world_here", "_law_by", "_law_tops_here", "_law_told"] (spP K R_is_best) := ⟨f__law_is_best, fd__law_is_best, m__law_is_best, F__law_is_best.kp, F__law_is_best.binds (ps := ["_law_world_here", "_law_by", "_law_tops_here", "_law_told"]) (fun _ _ _ _ _ _ us hl => match us, hl with | [_, _, _, _], _ => rfl), ok_law_is_best B F__law_is_best G__law_is_tuple G__law_is_chosen G__law_heights⟩
  have G__law_right : KnG l.prog w K mg base "_law_right" 11 ["_law_spring_here"] (spS K R_right) := ⟨f__law_right, fd__law_right, m__law_right, F__law_right.kp, F__law_right.binds (ps := ["_law_spring_here"]) (fun _ _ _ _ _ _ us hl => match us, hl with | [_], _ => rfl), ok_law_right B F__law_right G__law_any_of G__law_pick G__law_world G__law_gains G__law_tops G_best KW_best G_weighted G__law_is_best⟩
  exact ok_law B F_law G__law_right G__law_spring
end Dh

open PySem PySem.W PyProof.Rows
set_option maxHeartbeats 0 in
theorem PySem.Challenge.cw_deedhouses_k10_whole_best_beside_all_cho_holds : PySem.Challenge.rw_deedhouses_k10_whole_best_beside_all_cho.Holds := by
  w_on; o_law; k_head; (case hw => w_witness2)
  k_fill
  refine Ab.lawG_walk (l := PySem.Challenge.rw_deedhouses_k10_whole_best_beside_all_cho) (n := 63) (k := 12) (x := "_law_script") rfl (by decide) rfl ⟨rfl, by decide, by decide⟩ (fun w h Y => PySem.W.kIn_of Y) ?F
  case F =>
    intro w mg fa h KX G hmg
    refine' Dh.law_mk KX G hmg ?b_len ?b_range ?b_zip ?b_enumerate ?b_tuple ?b_list ?b_all ?b_isinstance ?b_int ?b_bool ?b_abs ?b_max ?b_min ?b_sum ?b_divmod ?b_repr ?b_gcd ?t_zero ?t_one ?i_pays ?i_stands ?i_deeds ?d_ratio ?d_plus ?d_minus ?d_times ?d_over ?d_is_less ?d__law_below ?d__law_frac ?d_is_whole ?d__law_is_whole ?d_is_tuple_of ?d__law_is_tuple ?d_total ?d_dot ?d_scaled ?d_joined ?d_noughts ?d_mean ?d_plain_odds ?d_less_row ?d_is_between ?d_is_ratio ?d_is_row ?d_least_at ?d_answers_of ?d_solved_worths ?d_are_chances ?d_is_deed ?d_is_stand ?d_is_share ?d_is_house_by ?d_check_house ?d_check_weights ?d_still_by ?d_chance_row ?d_odds_mean ?d_worths_by ?d_weighted_by ?d_gap_by ?d_gaps_by ?d_weighted_worths ?d_turn_by ?d_best_by ?d_best ?d_weighted ?d__law_sure ?d__law_choices ?d__law_is_chosen ?d__law_pick ?d__law_any_of ?d__law_part ?d__law_gains ?d__law_parts ?d__law_chances ?d__law_sized ?d__law_world ?d__law_spring ?d__law_plus ?d__law_minus ?d__law_times ?d__law_over ?d__law_dot ?d__law_solved ?d__law_moves ?d__law_got ?d__law_worths ?d__law_dressed ?d__law_heights ?d__law_tops ?d__law_is_best ?d__law_right ?d_law
    (case b_len => k_is)
    (case b_range => k_is)
    (case b_zip => k_is)
    (case b_enumerate => k_is)
    (case b_tuple => k_is)
    (case b_list => k_is)
    (case b_all => k_is)
    (case b_isinstance => k_is)
    (case b_int => k_is)
    (case b_bool => k_is)
    (case b_abs => k_is)
    (case b_max => k_is)
    (case b_min => k_is)
    (case b_sum => k_is)
    (case b_divmod => k_is)
    (case b_repr => k_is)
    (case b_gcd => k_is)
    (case t_zero => refine' Dh.tk_mk ?a_t_zero ?l_t_zero; (case a_t_zero => k_is); (case l_t_zero => k_is))
    (case t_one => refine' Dh.tk_mk ?a_t_one ?l_t_one; (case a_t_one => k_is); (case l_t_one => k_is))
    (case i_pays => refine' Dh.ik_mk ?a_i_pays; (case a_i_pays => k_is))
    (case i_stands => refine' Dh.ik_mk ?a_i_stands; (case a_i_stands => k_is))
    (case i_deeds => refine' Dh.ik_mk ?a_i_deeds; (case a_i_deeds => k_is))
    (case d_ratio => refine' Dh.dk_mk ?a_ratio ?l_ratio ?c_ratio ?k_ratio; (case a_ratio => k_is); (case l_ratio => k_is); (case c_ratio => k_is); (case k_ratio => k_is))
    (case d_plus => refine' Dh.dk_mk ?a_plus ?l_plus ?c_plus ?k_plus; (case a_plus => k_is); (case l_plus => k_is); (case c_plus => k_is); (case k_plus => k_is))
    (case d_minus => refine' Dh.dk_mk ?a_minus ?l_minus ?c_minus ?k_minus; (case a_minus => k_is); (case l_minus => k_is); (case c_minus => k_is); (case k_minus => k_is))
    (case d_times => refine' Dh.dk_mk ?a_times ?l_times ?c_times ?k_times; (case a_times => k_is); (case l_times => k_is); (case c_times => k_is); (case k_times => k_is))
    (case d_over => refine' Dh.dk_mk ?a_over ?l_over ?c_over ?k_over; (case a_over => k_is); (case l_over => k_is); (case c_over => k_is); (case k_over => k_is))
    (case d_is_less => refine' Dh.dk_mk ?a_is_less ?l_is_less ?c_is_less ?k_is_less; (case a_is_less => k_is); (case l_is_less => k_is); (case c_is_less => k_is); (case k_is_less => k_is))
    (case d__law_below => refine' Dh.dk_mk ?a__law_below ?l__law_below ?c__law_below ?k__law_below; (case a__law_below => k_is); (case l__law_below => k_is); (case c__law_below => k_is); (case k__law_below => k_is))
    (case d__law_frac => refine' Dh.dk_mk ?a__law_frac ?l__law_frac ?c__law_frac ?k__law_frac; (case a__law_frac => k_is); (case l__law_frac => k_is); (case c__law_frac => k_is); (case k__law_frac => k_is))
    (case d_is_whole => refine' Dh.dk_mk ?a_is_whole ?l_is_whole ?c_is_whole ?k_is_whole; (case a_is_whole => k_is); (case l_is_whole => k_is); (case c_is_whole => k_is); (case k_is_whole => k_is))
    (case d__law_is_whole => refine' Dh.dk_mk ?a__law_is_whole ?l__law_is_whole ?c__law_is_whole ?k__law_is_whole; (case a__law_is_whole => k_is); (case l__law_is_whole => k_is); (case c__law_is_whole => k_is); (case k__law_is_whole => k_is))
    (case d_is_tuple_of => refine' Dh.dk_mk ?a_is_tuple_of ?l_is_tuple_of ?c_is_tuple_of ?k_is_tuple_of; (case a_is_tuple_of => k_is); (case l_is_tuple_of => k_is); (case c_is_tuple_of => k_is); (case k_is_tuple_of => k_is))
    (case d__law_is_tuple => refine' Dh.dk_mk ?a__law_is_tuple ?l__law_is_tuple ?c__law_is_tuple ?k__law_is_tuple; (case a__law_is_tuple => k_is); (case l__law_is_tuple => k_is); (case c__law_is_tuple => k_is); (case k__law_is_tuple => k_is))
    (case d_total => refine' Dh.dk_mk ?a_total ?l_total ?c_total ?k_total; (case a_total => k_is); (case l_total => k_is); (case c_total => k_is); (case k_total => k_is))
    (case d_dot => refine' Dh.dk_mk ?a_dot ?l_dot ?c_dot ?k_dot; (case a_dot => k_is); (case l_dot => k_is); (case c_dot => k_is); (case k_dot => k_is))
    (case d_scaled => refine' Dh.dk_mk ?a_scaled ?l_scaled ?c_scaled ?k_scaled; (case a_scaled => k_is); (case l_scaled => k_is); (case c_scaled => k_is); (case k_scaled => k_is))
    (case d_joined => refine' Dh.dk_mk ?a_joined ?l_joined ?c_joined ?k_joined; (case a_joined => k_is); (case l_joined => k_is); (case c_joined => k_is); (case k_joined => k_is))
    (case d_noughts => refine' Dh.dk_mk ?a_noughts ?l_noughts ?c_noughts ?k_noughts; (case a_noughts => k_is); (case l_noughts => k_is); (case c_noughts => k_is); (case k_noughts => k_is))
    (case d_mean => refine' Dh.dk_mk ?a_mean ?l_mean ?c_mean ?k_mean; (case a_mean => k_is); (case l_mean => k_is); (case c_mean => k_is); (case k_mean => k_is))
    (case d_plain_odds => refine' Dh.dk_mk ?a_plain_odds ?l_plain_odds ?c_plain_odds ?k_plain_odds; (case a_plain_odds => k_is); (case l_plain_odds => k_is); (case c_plain_odds => k_is); (case k_plain_odds => k_is))
    (case d_less_row => refine' Dh.dk_mk ?a_less_row ?l_less_row ?c_less_row ?k_less_row; (case a_less_row => k_is); (case l_less_row => k_is); (case c_less_row => k_is); (case k_less_row => k_is))
    (case d_is_between => refine' Dh.dk_mk ?a_is_between ?l_is_between ?c_is_between ?k_is_between; (case a_is_between => k_is); (case l_is_between => k_is); (case c_is_between => k_is); (case k_is_between => k_is))
    (case d_is_ratio => refine' Dh.dk_mk ?a_is_ratio ?l_is_ratio ?c_is_ratio ?k_is_ratio; (case a_is_ratio => k_is); (case l_is_ratio => k_is); (case c_is_ratio => k_is); (case k_is_ratio => k_is))
    (case d_is_row => refine' Dh.dk_mk ?a_is_row ?l_is_row ?c_is_row ?k_is_row; (case a_is_row => k_is); (case l_is_row => k_is); (case c_is_row => k_is); (case k_is_row => k_is))
    (case d_least_at => refine' Dh.dk_mk ?a_least_at ?l_least_at ?c_least_at ?k_least_at; (case a_least_at => k_is); (case l_least_at => k_is); (case c_least_at => k_is); (case k_least_at => k_is))
    (case d_answers_of => refine' Dh.dk_mk ?a_answers_of ?l_answers_of ?c_answers_of ?k_answers_of; (case a_answers_of => k_is); (case l_answers_of => k_is); (case c_answers_of => k_is); (case k_answers_of => k_is))
    (case d_solved_worths => refine' Dh.dk_mk ?a_solved_worths ?l_solved_worths ?c_solved_worths ?k_solved_worths; (case a_solved_worths => k_is); (case l_solved_worths => k_is); (case c_solved_worths => k_is); (case k_solved_worths => k_is))
    (case d_are_chances => refine' Dh.dk_mk ?a_are_chances ?l_are_chances ?c_are_chances ?k_are_chances; (case a_are_chances => k_is); (case l_are_chances => k_is); (case c_are_chances => k_is); (case k_are_chances => k_is))
    (case d_is_deed => refine' Dh.dk_mk ?a_is_deed ?l_is_deed ?c_is_deed ?k_is_deed; (case a_is_deed => k_is); (case l_is_deed => k_is); (case c_is_deed => k_is); (case k_is_deed => k_is))
    (case d_is_stand => refine' Dh.dk_mk ?a_is_stand ?l_is_stand ?c_is_stand ?k_is_stand; (case a_is_stand => k_is); (case l_is_stand => k_is); (case c_is_stand => k_is); (case k_is_stand => k_is))
    (case d_is_share => refine' Dh.dk_mk ?a_is_share ?l_is_share ?c_is_share ?k_is_share; (case a_is_share => k_is); (case l_is_share => k_is); (case c_is_share => k_is); (case k_is_share => k_is))
    (case d_is_house_by => refine' Dh.dk_mk ?a_is_house_by ?l_is_house_by ?c_is_house_by ?k_is_house_by; (case a_is_house_by => k_is); (case l_is_house_by => k_is); (case c_is_house_by => k_is); (case k_is_house_by => k_is))
    (case d_check_house => refine' Dh.dk_mk ?a_check_house ?l_check_house ?c_check_house ?k_check_house; (case a_check_house => k_is); (case l_check_house => k_is); (case c_check_house => k_is); (case k_check_house => k_is))
    (case d_check_weights => refine' Dh.dk_mk ?a_check_weights ?l_check_weights ?c_check_weights ?k_check_weights; (case a_check_weights => k_is); (case l_check_weights => k_is); (case c_check_weights => k_is); (case k_check_weights => k_is))
    (case d_still_by => refine' Dh.dk_mk ?a_still_by ?l_still_by ?c_still_by ?k_still_by; (case a_still_by => k_is); (case l_still_by => k_is); (case c_still_by => k_is); (case k_still_by => k_is))
    (case d_chance_row => refine' Dh.dk_mk ?a_chance_row ?l_chance_row ?c_chance_row ?k_chance_row; (case a_chance_row => k_is); (case l_chance_row => k_is); (case c_chance_row => k_is); (case k_chance_row => k_is))
    (case d_odds_mean => refine' Dh.dk_mk ?a_odds_mean ?l_odds_mean ?c_odds_mean ?k_odds_mean; (case a_odds_mean => k_is); (case l_odds_mean => k_is); (case c_odds_mean => k_is); (case k_odds_mean => k_is))
    (case d_worths_by => refine' Dh.dk_mk ?a_worths_by ?l_worths_by ?c_worths_by ?k_worths_by; (case a_worths_by => k_is); (case l_worths_by => k_is); (case c_worths_by => k_is); (case k_worths_by => k_is))
    (case d_weighted_by => refine' Dh.dk_mk ?a_weighted_by ?l_weighted_by ?c_weighted_by ?k_weighted_by; (case a_weighted_by => k_is); (case l_weighted_by => k_is); (case c_weighted_by => k_is); (case k_weighted_by => k_is))
    (case d_gap_by => refine' Dh.dk_mk ?a_gap_by ?l_gap_by ?c_gap_by ?k_gap_by; (case a_gap_by => k_is); (case l_gap_by => k_is); (case c_gap_by => k_is); (case k_gap_by => k_is))
    (case d_gaps_by => refine' Dh.dk_mk ?a_gaps_by ?l_gaps_by ?c_gaps_by ?k_gaps_by; (case a_gaps_by => k_is); (case l_gaps_by => k_is); (case c_gaps_by => k_is); (case k_gaps_by => k_is))
    (case d_weighted_worths => refine' Dh.dk_mk ?a_weighted_worths ?l_weighted_worths ?c_weighted_worths ?k_weighted_worths; (case a_weighted_worths => k_is); (case l_weighted_worths => k_is); (case c_weighted_worths => k_is); (case k_weighted_worths => k_is))
    (case d_turn_by => refine' Dh.dk_mk ?a_turn_by ?l_turn_by ?c_turn_by ?k_turn_by; (case a_turn_by => k_is); (case l_turn_by => k_is); (case c_turn_by => k_is); (case k_turn_by => k_is))
    (case d_best_by => refine' Dh.dk_mk ?a_best_by ?l_best_by ?c_best_by ?k_best_by; (case a_best_by => k_is); (case l_best_by => k_is); (case c_best_by => k_is); (case k_best_by => k_is))
    (case d_best => refine' Dh.dk_mk ?a_best ?l_best ?c_best ?k_best; (case a_best => k_is); (case l_best => k_is); (case c_best => k_is); (case k_best => k_is))
    (case d_weighted => refine' Dh.dk_mk ?a_weighted ?l_weighted ?c_weighted ?k_weighted; (case a_weighted => k_is); (case l_weighted => k_is); (case c_weighted => k_is); (case k_weighted => k_is))
    (case d__law_sure => refine' Dh.dk_mk ?a__law_sure ?l__law_sure ?c__law_sure ?k__law_sure; (case a__law_sure => k_is); (case l__law_sure => k_is); (case c__law_sure => k_is); (case k__law_sure => k_is))
    (case d__law_choices => refine' Dh.dk_mk ?a__law_choices ?l__law_choices ?c__law_choices ?k__law_choices; (case a__law_choices => k_is); (case l__law_choices => k_is); (case c__law_choices => k_is); (case k__law_choices => k_is))
    (case d__law_is_chosen => refine' Dh.dk_mk ?a__law_is_chosen ?l__law_is_chosen ?c__law_is_chosen ?k__law_is_chosen; (case a__law_is_chosen => k_is); (case l__law_is_chosen => k_is); (case c__law_is_chosen => k_is); (case k__law_is_chosen => k_is))
    (case d__law_pick => refine' Dh.dk_mk ?a__law_pick ?l__law_pick ?c__law_pick ?k__law_pick; (case a__law_pick => k_is); (case l__law_pick => k_is); (case c__law_pick => k_is); (case k__law_pick => k_is))
    (case d__law_any_of => refine' Dh.dk_mk ?a__law_any_of ?l__law_any_of ?c__law_any_of ?k__law_any_of; (case a__law_any_of => k_is); (case l__law_any_of => k_is); (case c__law_any_of => k_is); (case k__law_any_of => k_is))
    (case d__law_part => refine' Dh.dk_mk ?a__law_part ?l__law_part ?c__law_part ?k__law_part; (case a__law_part => k_is); (case l__law_part => k_is); (case c__law_part => k_is); (case k__law_part => k_is))
    (case d__law_gains => refine' Dh.dk_mk ?a__law_gains ?l__law_gains ?c__law_gains ?k__law_gains; (case a__law_gains => k_is); (case l__law_gains => k_is); (case c__law_gains => k_is); (case k__law_gains => k_is))
    (case d__law_parts => refine' Dh.dk_mk ?a__law_parts ?l__law_parts ?c__law_parts ?k__law_parts; (case a__law_parts => k_is); (case l__law_parts => k_is); (case c__law_parts => k_is); (case k__law_parts => k_is))
    (case d__law_chances => refine' Dh.dk_mk ?a__law_chances ?l__law_chances ?c__law_chances ?k__law_chances; (case a__law_chances => k_is); (case l__law_chances => k_is); (case c__law_chances => k_is); (case k__law_chances => k_is))
    (case d__law_sized => refine' Dh.dk_mk ?a__law_sized ?l__law_sized ?c__law_sized ?k__law_sized; (case a__law_sized => k_is); (case l__law_sized => k_is); (case c__law_sized => k_is); (case k__law_sized => k_is))
    (case d__law_world => refine' Dh.dk_mk ?a__law_world ?l__law_world ?c__law_world ?k__law_world; (case a__law_world => k_is); (case l__law_world => k_is); (case c__law_world => k_is); (case k__law_world => k_is))
    (case d__law_spring => refine' Dh.dk_mk ?a__law_spring ?l__law_spring ?c__law_spring ?k__law_spring; (case a__law_spring => k_is); (case l__law_spring => k_is); (case c__law_spring => k_is); (case k__law_spring => k_is))
    (case d__law_plus => refine' Dh.dk_mk ?a__law_plus ?l__law_plus ?c__law_plus ?k__law_plus; (case a__law_plus => k_is); (case l__law_plus => k_is); (case c__law_plus => k_is); (case k__law_plus => k_is))
    (case d__law_minus => refine' Dh.dk_mk ?a__law_minus ?l__law_minus ?c__law_minus ?k__law_minus; (case a__law_minus => k_is); (case l__law_minus => k_is); (case c__law_minus => k_is); (case k__law_minus => k_is))
    (case d__law_times => refine' Dh.dk_mk ?a__law_times ?l__law_times ?c__law_times ?k__law_times; (case a__law_times => k_is); (case l__law_times => k_is); (case c__law_times => k_is); (case k__law_times => k_is))
    (case d__law_over => refine' Dh.dk_mk ?a__law_over ?l__law_over ?c__law_over ?k__law_over; (case a__law_over => k_is); (case l__law_over => k_is); (case c__law_over => k_is); (case k__law_over => k_is))
    (case d__law_dot => refine' Dh.dk_mk ?a__law_dot ?l__law_dot ?c__law_dot ?k__law_dot; (case a__law_dot => k_is); (case l__law_dot => k_is); (case c__law_dot => k_is); (case k__law_dot => k_is))
    (case d__law_solved => refine' Dh.dk_mk ?a__law_solved ?l__law_solved ?c__law_solved ?k__law_solved; (case a__law_solved => k_is); (case l__law_solved => k_is); (case c__law_solved => k_is); (case k__law_solved => k_is))
    (case d__law_moves => refine' Dh.dk_mk ?a__law_moves ?l__law_moves ?c__law_moves ?k__law_moves; (case a__law_moves => k_is); (case l__law_moves => k_is); (case c__law_moves => k_is); (case k__law_moves => k_is))
    (case d__law_got => refine' Dh.dk_mk ?a__law_got ?l__law_got ?c__law_got ?k__law_got; (case a__law_got => k_is); (case l__law_got => k_is); (case c__law_got => k_is); (case k__law_got => k_is))
    (case d__law_worths => refine' Dh.dk_mk ?a__law_worths ?l__law_worths ?c__law_worths ?k__law_worths; (case a__law_worths => k_is); (case l__law_worths => k_is); (case c__law_worths => k_is); (case k__law_worths => k_is))
    (case d__law_dressed => refine' Dh.dk_mk ?a__law_dressed ?l__law_dressed ?c__law_dressed ?k__law_dressed; (case a__law_dressed => k_is); (case l__law_dressed => k_is); (case c__law_dressed => k_is); (case k__law_dressed => k_is))
    (case d__law_heights => refine' Dh.dk_mk ?a__law_heights ?l__law_heights ?c__law_heights ?k__law_heights; (case a__law_heights => k_is); (case l__law_heights => k_is); (case c__law_heights => k_is); (case k__law_heights => k_is))
    (case d__law_tops => refine' Dh.dk_mk ?a__law_tops ?l__law_tops ?c__law_tops ?k__law_tops; (case a__law_tops => k_is); (case l__law_tops => k_is); (case c__law_tops => k_is); (case k__law_tops => k_is))
    (case d__law_is_best => refine' Dh.dk_mk ?a__law_is_best ?l__law_is_best ?c__law_is_best ?k__law_is_best; (case a__law_is_best => k_is); (case l__law_is_best => k_is); (case c__law_is_best => k_is); (case k__law_is_best => k_is))
    (case d__law_right => refine' Dh.dk_mk ?a__law_right ?l__law_right ?c__law_right ?k__law_right; (case a__law_right => k_is); (case l__law_right => k_is); (case c__law_right => k_is); (case k__law_right => k_is))
    (case d_law => refine' Dh.dk_mk ?a_law ?l_law ?c_law ?k_law; (case a_law => k_is); (case l_law => k_is); (case c_law => k_is); (case k_law => k_is))
