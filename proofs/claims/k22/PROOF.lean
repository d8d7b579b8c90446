import PyProof.Rows.All
import Wide.All
import OpenK.AllK
import Wide.FinOn
import HandS.ForMost
import HandS.IsInst
import HandS.TupAny
import HandS.TupMul
import HandS.Deep
import HandS.Zip
import HandS.Conv
import HandS.Style
import HandS.SortInts
import KE.KRevSl
import KE.KTupSum
import KE.KStateDown
import KE.GoesEnum
import HandS.TupSets
import KE.SortData
import PySem.Challenge.RW_swapyard_k22_whole_sure
set_option Elab.async false
set_option linter.all false
set_option maxRecDepth 100000
set_option maxHeartbeats 4000000
/-! Dv: plain data over the hand layer: what an expression is worth, as a function of the data in the slots. -/
namespace Dv
open PySem PySem.Spec PyProof.Rows L2

/-! ### data in the heap -/
mutual
inductive Den (K : PySem.W.Frag) (H : Hp) : V → PyData → Prop
  | non : Den K H .non .none
  | bl (b : Bool) : Den K H (.bl b) (.bool b)
  | int (i : Int) : Den K H (.int i) (.int i)
  | str (x : Str) : Den K H (.str x) (.str x)
  | lst {a : Addr} {xs : List V} {ds : List PyData} : SqL K H a xs → ds.length ≤ sizeLine → DenL K H xs ds → Den K H (.ref a) (.list ds)
  | tup {a : Addr} {xs : List V} {ds : List PyData} : SqT K H a xs → ds.length ≤ sizeLine → DenL K H xs ds → Den K H (.ref a) (.tuple ds)
inductive DenL (K : PySem.W.Frag) (H : Hp) : List V → List PyData → Prop
  | nil : DenL K H [] []
  | cons {v : V} {vs : List V} {d : PyData} {ds : List PyData} : Den K H v d → DenL K H vs ds → DenL K H (v :: vs) (d :: ds)
end

section
variable {K : PySem.W.Frag} {H H' H1 H1' H2 H2' : Hp} {a p : Addr} {o : HO} {xs vs : List V} {ds : List PyData} {v : V} {d : PyData}
theorem sqT_mono (e : Same H H') (h : SqT K H a xs) : SqT K H' a xs := by
  rcases h with (h | ⟨o, h⟩) | h
  · exact .inl (.inl (e _ _ h))
  · exact .inl (.inr ⟨o, e _ _ h⟩)
  · exact .inr h
mutual
theorem Den.mono (e : Same H H') : ∀ (d : PyData) (v : V), Den K H v d → Den K H' v d
  | .none, _, h => by cases h; exact .non
  | .bool b, _, h => by cases h; exact .bl b
  | .int i, _, h => by cases h; exact .int i
  | .str x, _, h => by cases h; exact .str x
  | .list ds, _, h => by cases h with | lst a b c => exact .lst (e.seq a) b (DenL.mono e ds _ c)
  | .tuple ds, _, h => by cases h with | tup a b c => exact .tup (sqT_mono e a) b (DenL.mono e ds _ c)
  | .dict _, _, h => by cases h
theorem DenL.mono (e : Same H H') : ∀ (ds : List PyData) (vs : List V), DenL K H vs ds → DenL K H' vs ds
  | [], _, h => by cases h; exact .nil
  | d :: ds, _, h => by cases h with | cons a b => exact .cons (Den.mono e d _ a) (DenL.mono e ds _ b)
end
mutual
theorem Den.dp : ∀ (d : PyData) (v : V), Den K H v d → Dp K H v d
  | .none, _, h => by cases h; exact .non
  | .bool b, _, h => by cases h; exact .bl b
  | .int i, _, h => by cases h; exact .int i
  | .str x, _, h => by cases h; exact .str x
  | .list ds, _, h => by cases h with | lst a b c => exact .lst a (DenL.dp ds _ c)
  | .tuple ds, _, h => by cases h with | tup a b c => exact .tup a (DenL.dp ds _ c)
  | .dict _, _, h => by cases h
theorem DenL.dp : ∀ (ds : List PyData) (vs : List V), DenL K H vs ds → DpAll K H vs ds
  | [], _, h => by cases h; exact .nil
  | d :: ds, _, h => by cases h with | cons a b => exact .cons (Den.dp d _ a) (DenL.dp ds _ b)
end
theorem DenL.length : ∀ {ds : List PyData} {vs : List V}, DenL K H vs ds → vs.length = ds.length
  | [], _, h => by cases h; rfl
  | d :: ds, _, h => by cases h with | cons a b => rw [List.length_cons, List.length_cons, DenL.length b]
theorem DenL.get : ∀ {ds : List PyData} {vs : List V} {i : Nat} {d : PyData}, DenL K H vs ds → ds[i]? = some d → ∃ v, vs[i]? = some v ∧ Den K H v d
  | [], _, _, _, h, e => by simp at e
  | x :: ds, _, 0, d, h, e => by
    cases h with
    | cons a b =>
      have e' : x = d := by simpa using e
      subst e'
      exact ⟨_, rfl, a⟩
  | x :: ds, _, i + 1, d, h, e => by
    cases h with
    | cons a b =>
      obtain ⟨v, q1, q2⟩ := DenL.get (i := i) (d := d) b (by simpa using e)
      exact ⟨v, by simpa using q1, q2⟩
theorem DenL.get' : ∀ {ds : List PyData} {vs : List V} {i : Nat} {v : V}, DenL K H vs ds → vs[i]? = some v → ∃ d, ds[i]? = some d ∧ Den K H v d
  | [], _, _, _, h, e => by cases h; simp at e
  | x :: ds, _, 0, v, h, e => by
    cases h with
    | cons a b =>
      rename_i y ys
      have e' : y = v := by simpa using e
      subst e'
      exact ⟨_, rfl, a⟩
  | x :: ds, _, i + 1, v, h, e => by
    cases h with
    | cons a b =>
      obtain ⟨d, q1, q2⟩ := DenL.get' (i := i) (v := v) b (by simpa using e)
      exact ⟨d, by simpa using q1, q2⟩
theorem DenL.append : ∀ {ds es : List PyData} {vs ws : List V}, DenL K H vs ds → DenL K H ws es → DenL K H (vs ++ ws) (ds ++ es)
  | [], _, _, _, h, h' => by cases h; exact h'
  | x :: ds, _, _, _, h, h' => by cases h with | cons a b => exact .cons a (DenL.append b h')
theorem DenL.take : ∀ (n : Nat) {ds : List PyData} {vs : List V}, DenL K H vs ds → DenL K H (vs.take n) (ds.take n)
  | 0, _, _, _ => by rw [List.take_zero, List.take_zero]; exact .nil
  | n + 1, [], _, h => by cases h; exact .nil
  | n + 1, x :: ds, _, h => by cases h with | cons a b => exact .cons a (DenL.take n b)
theorem DenL.drop : ∀ (n : Nat) {ds : List PyData} {vs : List V}, DenL K H vs ds → DenL K H (vs.drop n) (ds.drop n)
  | 0, _, _, h => h
  | n + 1, [], _, h => by cases h; exact .nil
  | n + 1, x :: ds, _, h => by cases h with | cons a b => exact DenL.drop n b
theorem DenL.set {w : V} {e : PyData} (q : Den K H w e) : ∀ (n : Nat) {ds : List PyData} {vs : List V}, DenL K H vs ds → DenL K H (vs.set n w) (ds.set n e)
  | _, [], _, h => by cases h; exact .nil
  | 0, x :: ds, _, h => by cases h with | cons a b => exact .cons q b
  | n + 1, x :: ds, _, h => by cases h with | cons a b => exact .cons a (DenL.set q n b)
theorem DenL.reverse : ∀ {ds : List PyData} {vs : List V}, DenL K H vs ds → DenL K H vs.reverse ds.reverse
  | [], _, h => by cases h; exact .nil
  | x :: ds, _, h => by
    cases h with
    | cons a b =>
      rw [List.reverse_cons, List.reverse_cons]
      exact DenL.append (DenL.reverse b) (.cons a .nil)
theorem DenL.rep {ds : List PyData} {vs : List V} (h : DenL K H vs ds) : ∀ n : Nat, DenL K H (List.replicate n vs).flatten (List.replicate n ds).flatten
  | 0 => .nil
  | n + 1 => by
    rw [List.replicate_succ, List.replicate_succ, List.flatten_cons, List.flatten_cons]
    exact h.append (DenL.rep h n)
theorem DenL.one (h : Den K H v d) : DenL K H [v] [d] := .cons h .nil
theorem DenL.ints : ∀ (ns : List Int), DenL K H (ns.map V.int) (ns.map PyData.int)
  | [] => .nil
  | n :: ns => .cons (.int n) (DenL.ints ns)
theorem DenL.ints_of : ∀ {ns : List Int} {vs : List V}, DenL K H vs (ns.map PyData.int) → vs = ns.map V.int
  | [], _, h => by cases h; rfl
  | n :: ns, _, h => by
    cases h with
    | cons a b =>
      cases a
      rw [DenL.ints_of b]
      rfl

/-! ### the stable heap and the heap -/
/-- from (H1, H) to (H1', H'): H1 the stable part of H -/
structure Ext (H1 H H1' H' : Hp) : Prop where
  st : Same H1 H1'
  sub : Same H1' H'
  fr : ∀ b o, H b = some o → H1 b = none → H1' b = none ∧ H' b = some o
theorem Ext.refl (s : Same H1 H) : Ext H1 H H1 H := ⟨Same.refl _, s, fun _ _ e n => ⟨n, e⟩⟩
theorem Ext.trans (x : Ext H1 H H1' H') (y : Ext H1' H' H2 H2') : Ext H1 H H2 H2' := ⟨x.st.trans y.st, y.sub, fun b o e n => let ⟨n', e'⟩ := x.fr b o e n; y.fr b o e' n'⟩
theorem Ext.same (s : Same H1 H) (x : Ext H1 H H1' H') : Same H H' := fun b o e => by
  cases q : H1 b with
  | none => exact (x.fr b o e q).2
  | some o' =>
    have e2 := s b o' q
    rw [e] at e2
    cases e2
    exact x.sub _ _ (x.st _ _ q)
theorem upd_none {b : Addr} (h : upd H p o b = none) : b ≠ p ∧ H b = none := by
  by_cases e : b = p
  · subst e; rw [upd_same] at h; cases h
  · rw [upd_ne e] at h; exact ⟨e, h⟩
theorem same_new (n : H p = none) : Same H (upd H p o) := fun b x e => by rw [upd_ne (ne_of_none e n)]; exact e
theorem none_of_sub (s : Same H1 H) (n : H p = none) : H1 p = none := s.free n
theorem Ext.new (s : Same H1 H) (n : H p = none) : Ext H1 H (upd H1 p o) (upd H p o) := by
  refine ⟨same_new (s.free n), fun b x e => ?_, fun b x e m => ?_⟩
  · by_cases hb : b = p
    · subst hb; rw [upd_same] at e ⊢; exact e
    · rw [upd_ne hb] at e ⊢; exact s _ _ e
  · have hb : b ≠ p := ne_of_none e n
    rw [upd_ne hb, upd_ne hb]
    exact ⟨m, e⟩
theorem Ext.newMut (s : Same H1 H) (n : H p = none) : Ext H1 H H1 (upd H p o) :=
  ⟨Same.refl _, s.trans (same_new n), fun b x e m => ⟨m, by rw [upd_ne (ne_of_none e n)]; exact e⟩⟩
/-- a new object becomes stable -/
theorem Ext.frz (x : Ext H1 H H1' H') (n : H a = none) (e : H' a = some o) (n' : H1' a = none) : Ext H1 H (upd H1' a o) H' := by
  refine ⟨x.st.trans (same_new n'), fun b u q => ?_, fun b u q m => ?_⟩
  · by_cases hb : b = a
    · subst hb; rw [upd_same] at q; rw [← q]; exact e
    · rw [upd_ne hb] at q; exact x.sub _ _ q
  · rw [upd_ne (ne_of_none q n)]
    exact x.fr b u q m
end

/-! ### what stands in the slots -/
inductive W where
  | im (d : PyData)
  | ml (ds : List PyData)
  | md (kvs : List (Int × PyData))
  | mm (rows : List (List PyData))
  | xo (a : Addr) (c : Str)
  | fo (C : Addr) (fs : List (Str × PyData))
  | so (C a dx : Addr) (fs : List (Str × PyData))
  | ob (C : Addr) (fs : List (Str × PyData))
abbrev En := List (Option W)
def W.mut : W → Prop
  | .im _ => False
  | .xo _ _ => False
  | .fo _ _ => False
  | .so _ _ _ _ => False
  | .ob _ _ => False
  | _ => True
def DenKV (K : PySem.W.Frag) (H : Hp) : List (Key × V) → List (Int × PyData) → Prop := Paired fun p q => p.1 = Sum.inl q.1 ∧ Den K H p.2 q.2
def RowsOk (K : PySem.W.Frag) (H1 H : Hp) : List Addr → List (List PyData) → Prop := Paired fun k ds => ∃ vs, H k = some (.lst vs) ∧ H1 k = none ∧ ds.length ≤ sizeLine ∧ DenL K H1 vs ds
/-- an instance's attributes -/
def FDen (K : PySem.W.Frag) (H : Hp) : List (Str × V) → List (Str × PyData) → Prop := Paired fun p q => p.1 = q.1 ∧ Den K H p.2 q.2
def InsOk (K : PySem.W.Frag) (H1 H : Hp) (C a dx : Addr) (fs : List (Str × PyData)) : Prop := ∃ fsV, H a = some (.ins C dx fsV) ∧ H dx = some (.own a) ∧ H1 a = none ∧ H1 dx = none ∧ fs.length ≤ 900 ∧ FDen K H1 fsV fs
def WOk (K : PySem.W.Frag) (H1 H : Hp) (v : V) : W → Prop
  | .im d => Den K H1 v d
  | .ml ds => ∃ a vs, v = .ref a ∧ H a = some (.lst vs) ∧ H1 a = none ∧ ds.length ≤ sizeLine ∧ DenL K H1 vs ds
  | .md kvs => ∃ a ws, v = .ref a ∧ H a = some (.dK ws) ∧ H1 a = none ∧ kvs.length ≤ sizeLine ∧ DenKV K H1 ws kvs
  | .mm rows => ∃ (a : Addr) (ks : List Addr), v = .ref a ∧ H a = some (.lst (ks.map V.ref)) ∧ H1 a = none ∧ rows.length ≤ sizeLine ∧ a ∉ ks ∧ ks.Nodup ∧ RowsOk K H1 H ks rows
  | .xo a _ => v = .ref a
  | .fo C fs => ∃ a dx fsV, v = .ref a ∧ H1 a = some (.ins C dx fsV) ∧ H1 dx = some (.own a) ∧ fs.length ≤ 900 ∧ FDen K H1 fsV fs
  | .so C a dx fs => v = .ref a ∧ InsOk K H1 H C a dx fs
  | .ob C fs => ∃ a dx, v = .ref a ∧ InsOk K H1 H C a dx fs
/-- what a slot has for its own -/
def Owned (H : Hp) (v : V) (b : Addr) : W → Prop
  | .im _ => False
  | .xo _ _ => False
  | .fo _ _ => False
  | .so _ a dx _ => v = .ref a ∧ (b = a ∨ b = dx)
  | .ob C _ => v = .ref b ∨ ∃ (a dx : Addr) (fsV : List (Str × V)), v = .ref a ∧ H a = some (.ins C dx fsV) ∧ b = dx
  | .ml _ => v = .ref b
  | .md _ => v = .ref b
  | .mm _ => v = .ref b ∨ ∃ (a : Addr) (ks : List Addr), v = .ref a ∧ H a = some (.lst (ks.map V.ref)) ∧ b ∈ ks
theorem map_ref_inj : ∀ {ks ls : List Addr}, ks.map V.ref = ls.map V.ref → ks = ls
  | [], [], _ => rfl
  | [], _ :: _, h => by cases h
  | _ :: _, [], h => by cases h
  | k :: ks, l :: ls, h => by
    rw [List.map_cons, List.map_cons] at h
    injection h with h1 h2
    cases h1
    rw [map_ref_inj h2]
theorem RowsOk.at_ {K : PySem.W.Frag} {H1 H : Hp} : ∀ {ks : List Addr} {rows : List (List PyData)}, RowsOk K H1 H ks rows → ∀ b ∈ ks, ∃ o, H b = some o ∧ H1 b = none
  | _, _, .nil, b, hb => by cases hb
  | _, _, .cons ⟨vs, h1, h2, _⟩ t, b, hb => by
    rcases List.mem_cons.mp hb with rfl | hb
    · exact ⟨_, h1, h2⟩
    · exact RowsOk.at_ t b hb
theorem RowsOk.ext {K : PySem.W.Frag} {H1 H H1' H' : Hp} {ks : List Addr} {rows : List (List PyData)} (x : Ext H1 H H1' H') (h : RowsOk K H1 H ks rows) : RowsOk K H1' H' ks rows :=
  Paired.mapP h fun k ds ⟨vs, h1, h2, h3, h4⟩ => ⟨vs, (x.fr k _ h1 h2).2, (x.fr k _ h1 h2).1, h3, DenL.mono x.st ds vs h4⟩
theorem Owned.at_ {K : PySem.W.Frag} {H1 H : Hp} {v : V} {b : Addr} {w : W} (q : WOk K H1 H v w) (h : Owned H v b w) : ∃ o, H b = some o ∧ H1 b = none := by
  cases w with
  | im d => exact h.elim
  | xo a c => exact h.elim
  | fo C fs => exact h.elim
  | so C a dx fs =>
    obtain ⟨rfl, fsV, q1, q2, q3, q4, _⟩ := q
    rcases h with ⟨_, rfl | rfl⟩
    · exact ⟨_, q1, q3⟩
    · exact ⟨_, q2, q4⟩
  | ob C fs =>
    obtain ⟨a, dx, rfl, fsV, q1, q2, q3, q4, _⟩ := q
    rcases h with h | ⟨a', dx', fsV', h, e', rfl⟩
    · cases h
      exact ⟨_, q1, q3⟩
    · cases h
      rw [q1] at e'
      cases e'
      exact ⟨_, q2, q4⟩
  | ml ds =>
    obtain ⟨a, vs, rfl, e, n, _⟩ := q
    cases h
    exact ⟨_, e, n⟩
  | md ds =>
    obtain ⟨a, vs, rfl, e, n, _⟩ := q
    cases h
    exact ⟨_, e, n⟩
  | mm rows =>
    obtain ⟨a, ks, rfl, e, n, _, _, _, r⟩ := q
    rcases h with h | ⟨a', ks', h, e', hb⟩
    · cases h
      exact ⟨_, e, n⟩
    · cases h
      rw [e] at e'
      injection e' with e'
      injection e' with e'
      rw [← map_ref_inj e'] at hb
      exact r.at_ b hb
/-- .. is known from any heap that has it as it was -/
theorem Owned.back {K : PySem.W.Frag} {H1 H H' : Hp} {v : V} {b : Addr} {w : W} (q : WOk K H1 H v w) (s : ∀ a o, v = .ref a → H a = some o → H' a = some o) (h : Owned H' v b w) : Owned H v b w := by
  cases w with
  | im d => exact h
  | xo a c => exact h
  | fo C fs => exact h
  | so C a dx fs => exact h
  | ob C fs =>
    obtain ⟨a, dx, rfl, fsV, q1, q2, q3, q4, _⟩ := q
    rcases h with h | ⟨a', dx', fsV', h, e', rfl⟩
    · exact .inl h
    · cases h
      rw [s a _ rfl q1] at e'
      cases e'
      exact .inr ⟨a, _, _, rfl, q1, rfl⟩
  | ml ds => exact h
  | md ds => exact h
  | mm rows =>
    obtain ⟨a, ks, rfl, e, _⟩ := q
    rcases h with h | ⟨a', ks', h, e', hb⟩
    · exact .inl h
    · cases h
      rw [s a _ rfl e] at e'
      injection e' with e'
      injection e' with e'
      exact .inr ⟨a, ks, rfl, e, by rw [map_ref_inj e']; exact hb⟩
theorem FDen.mono {K : PySem.W.Frag} {H H' : Hp} {fsV : List (Str × V)} {fs : List (Str × PyData)} (e : Same H H') (h : FDen K H fsV fs) : FDen K H' fsV fs := Paired.mapP h fun p q ⟨e1, e2⟩ => ⟨e1, Den.mono e _ _ e2⟩
theorem InsOk.ext {K : PySem.W.Frag} {H1 H H1' H' : Hp} {C a dx : Addr} {fs : List (Str × PyData)} (x : Ext H1 H H1' H') (h : InsOk K H1 H C a dx fs) : InsOk K H1' H' C a dx fs := by
  obtain ⟨fsV, q1, q2, q3, q4, q5, q6⟩ := h
  exact ⟨fsV, (x.fr _ _ q1 q3).2, (x.fr _ _ q2 q4).2, (x.fr _ _ q1 q3).1, (x.fr _ _ q2 q4).1, q5, q6.mono x.st⟩
theorem WOk.ext {K : PySem.W.Frag} {H1 H H1' H' : Hp} {v : V} {w : W} (x : Ext H1 H H1' H') (h : WOk K H1 H v w) : WOk K H1' H' v w := by
  cases w with
  | im d => exact Den.mono x.st d v h
  | xo a c => exact h
  | fo C fs =>
    obtain ⟨a, dx, fsV, e0, q1, q2, q3, q4⟩ := h
    exact ⟨a, dx, fsV, e0, x.st _ _ q1, x.st _ _ q2, q3, q4.mono x.st⟩
  | so C a dx fs => exact ⟨h.1, h.2.ext x⟩
  | ob C fs =>
    obtain ⟨a, dx, e0, q⟩ := h
    exact ⟨a, dx, e0, q.ext x⟩
  | ml ds =>
    obtain ⟨a, vs, rfl, e, n, l, q⟩ := h
    exact ⟨a, vs, rfl, (x.fr a _ e n).2, (x.fr a _ e n).1, l, DenL.mono x.st ds vs q⟩
  | md kvs =>
    obtain ⟨a, ws, rfl, e, n, l, q⟩ := h
    exact ⟨a, ws, rfl, (x.fr a _ e n).2, (x.fr a _ e n).1, l, Paired.mapP q fun p z ⟨e1, e2⟩ => ⟨e1, Den.mono x.st _ _ e2⟩⟩
  | mm rows =>
    obtain ⟨a, ks, rfl, e, n, l, d1, d2, q⟩ := h
    exact ⟨a, ks, rfl, (x.fr a _ e n).2, (x.fr a _ e n).1, l, d1, d2, q.ext x⟩
structure Sok (K : PySem.W.Frag) (H1 H : Hp) (σ : L2.St) (ρ : En) : Prop where
  sub : Same H1 H
  len : σ.length = ρ.length
  at_ : ∀ (i : Nat) w, ρ[i]? = some (some w) → ∃ v, σ[i]? = some (some v) ∧ WOk K H1 H v w
  inj : ∀ (i j : Nat) w w' v v' b, ρ[i]? = some (some w) → ρ[j]? = some (some w') → σ[i]? = some (some v) → σ[j]? = some (some v') → Owned H v b w → Owned H v' b w' → i = j
theorem Sok.ext {K : PySem.W.Frag} {H1 H H1' H' : Hp} {σ : L2.St} {ρ : En} (s : Sok K H1 H σ ρ) (x : Ext H1 H H1' H') : Sok K H1' H' σ ρ :=
  ⟨x.sub, s.len, fun i w e => let ⟨v, e1, q⟩ := s.at_ i w e; ⟨v, e1, q.ext x⟩, fun i j w w' v v' b e1 e2 f1 f2 o1 o2 => by
    obtain ⟨u, g1, q1⟩ := s.at_ i w e1
    rw [f1] at g1
    cases g1
    obtain ⟨u, g2, q2⟩ := s.at_ j w' e2
    rw [f2] at g2
    cases g2
    have sm := x.same s.sub
    exact s.inj i j w w' v v' b e1 e2 f1 f2 (o1.back q1 fun a o _ h => sm _ _ h) (o2.back q2 fun a o _ h => sm _ _ h)⟩
/-- a slot gets plain data -/
theorem Sok.set {K : PySem.W.Frag} {H1 H : Hp} {σ : L2.St} {ρ : En} {v : V} {d : PyData} (s : Sok K H1 H σ ρ) (i : Nat) (q : Den K H1 v d) : Sok K H1 H (σ.set i (some v)) (ρ.set i (some (.im d))) := by
  refine ⟨s.sub, by rw [List.length_set, List.length_set]; exact s.len, fun j w e => ?_, fun j l w w' v1 v2 b e1 e2 f1 f2 o1 o2 => ?_⟩
  · by_cases hj : i = j
    · subst hj
      have hl : i < ρ.length := by
        have := (List.getElem?_eq_some_iff.mp e).1
        rwa [List.length_set] at this
      rw [List.getElem?_set_self hl] at e
      cases e
      rw [List.getElem?_set_self (by rw [s.len]; exact hl)]
      exact ⟨v, rfl, q⟩
    · rw [List.getElem?_set_ne hj] at e ⊢
      exact s.at_ j w e
  · have nj : ∀ {j w v1}, (ρ.set i (some (.im d)))[j]? = some (some w) → Owned H v1 b w → i ≠ j := fun {j w v1} e m hj => by
      subst hj
      have hl : i < ρ.length := by
        have := (List.getElem?_eq_some_iff.mp e).1
        rwa [List.length_set] at this
      rw [List.getElem?_set_self hl] at e
      cases e
      exact m
    have n1 := nj e1 o1
    have n2 := nj e2 o2
    rw [List.getElem?_set_ne n1] at e1 f1
    rw [List.getElem?_set_ne n2] at e2 f2
    exact s.inj j l w w' v1 v2 b e1 e2 f1 f2 o1 o2

/-! ### judgements -/
/-- the expression e is worth f of the slots -/
def DE (X : Cx) (e : Expr) (f : En → Option PyData) : Prop :=
  ∃ t, PE X e t ∧ ∀ (σ : L2.St) (H1 H : Hp) (ρ : En) (d : PyData) (Q : VK), Sok X.K H1 H σ ρ → f ρ = some d → (∀ v H1' H', Ext H1 H H1' H' → Den X.K H1' v d → Q v H') → t σ H Q
/-- .. a new list -/
def DL (X : Cx) (e : Expr) (f : En → Option (List PyData)) : Prop :=
  ∃ t, PE X e t ∧ ∀ (σ : L2.St) (H1 H : Hp) (ρ : En) (ds : List PyData) (Q : VK), Sok X.K H1 H σ ρ → f ρ = some ds →
    (∀ a vs H1' H', Ext H1 H H1' H' → H a = none → H' a = some (.lst vs) → H1' a = none → ds.length ≤ sizeLine → DenL X.K H1' vs ds → Q (.ref a) H') → t σ H Q
def DT (X : Cx) (e : Expr) (f : En → Option Bool) : Prop :=
  ∃ t, PT X e t ∧ ∀ (σ : L2.St) (H1 H : Hp) (ρ : En) (b : Bool) (Q : Bool → Hp → Prop), Sok X.K H1 H σ ρ → f ρ = some b → (∀ H1' H', Ext H1 H H1' H' → Q b H') → t σ H Q
def DW (X : Cx) (e : Expr) (f : En → Option Bool) : Prop :=
  ∃ t, PW X e t ∧ ∀ (σ : L2.St) (H1 H : Hp) (ρ : En) (b : Bool) (Q : Bool → Hp → Prop), Sok X.K H1 H σ ρ → f ρ = some b → (∀ H1' H', Ext H1 H H1' H' → Q b H') → t σ H Q
def DA (X : Cx) (es : List Expr) (f : En → Option (List PyData)) : Prop :=
  ∃ t, PA X es t ∧ ∀ (σ : L2.St) (H1 H : Hp) (ρ : En) (ds : List PyData) (Q : List V → Hp → Prop), Sok X.K H1 H σ ρ → f ρ = some ds → (∀ vs H1' H', Ext H1 H H1' H' → DenL X.K H1' vs ds → Q vs H') → t σ H Q

/-! ### by values -/
def V1 (K : PySem.W.Frag) (r : V → Hp → VK → Prop) (g : PyData → Option PyData) : Prop := ∀ (x : V) (d c : PyData) (H1 H : Hp) (Q : VK), Same H1 H → Den K H1 x d → g d = some c → (∀ v H1' H', Ext H1 H H1' H' → Den K H1' v c → Q v H') → r x H Q
def V2 (K : PySem.W.Frag) (r : R2) (g : PyData → PyData → Option PyData) : Prop := ∀ (x y : V) (d e c : PyData) (H1 H : Hp) (Q : VK), Same H1 H → Den K H1 x d → Den K H1 y e → g d e = some c → (∀ v H1' H', Ext H1 H H1' H' → Den K H1' v c → Q v H') → r x y H Q
def VN (K : PySem.W.Frag) (r : List V → Hp → VK → Prop) (g : List PyData → Option PyData) : Prop := ∀ (xs : List V) (ds : List PyData) (c : PyData) (H1 H : Hp) (Q : VK), Same H1 H → DenL K H1 xs ds → g ds = some c → (∀ v H1' H', Ext H1 H H1' H' → Den K H1' v c → Q v H') → r xs H Q
/-- .. a new list -/
def VNL (K : PySem.W.Frag) (r : List V → Hp → VK → Prop) (g : List PyData → Option (List PyData)) : Prop := ∀ (xs : List V) (ds cs : List PyData) (H1 H : Hp) (Q : VK), Same H1 H → DenL K H1 xs ds → g ds = some cs →
  (∀ a vs H1' H', Ext H1 H H1' H' → H a = none → H' a = some (.lst vs) → H1' a = none → cs.length ≤ sizeLine → DenL K H1' vs cs → Q (.ref a) H') → r xs H Q
def V2L (K : PySem.W.Frag) (r : R2) (g : PyData → PyData → Option (List PyData)) : Prop := ∀ (x y : V) (d e : PyData) (cs : List PyData) (H1 H : Hp) (Q : VK), Same H1 H → Den K H1 x d → Den K H1 y e → g d e = some cs →
  (∀ a vs H1' H', Ext H1 H H1' H' → H a = none → H' a = some (.lst vs) → H1' a = none → cs.length ≤ sizeLine → DenL K H1' vs cs → Q (.ref a) H') → r x y H Q

/-! ### the functions of the slots -/
def eVar (i : Nat) : En → Option PyData := fun ρ => match ρ[i]? with
  | some (some (.im d)) => some d
  | _ => none
def eC (d : PyData) : En → Option PyData := fun _ => some d
def e1 (g : PyData → Option PyData) (f : En → Option PyData) : En → Option PyData := fun ρ => (f ρ).bind g
def e2 (g : PyData → PyData → Option PyData) (f f' : En → Option PyData) : En → Option PyData := fun ρ => (f ρ).bind fun d => (f' ρ).bind fun e => g d e
def e2L (g : PyData → PyData → Option (List PyData)) (f f' : En → Option PyData) : En → Option (List PyData) := fun ρ => (f ρ).bind fun d => (f' ρ).bind fun e => g d e
def eN (g : List PyData → Option PyData) (f : En → Option (List PyData)) : En → Option PyData := fun ρ => (f ρ).bind g
def eNL (g : List PyData → Option (List PyData)) (f : En → Option (List PyData)) : En → Option (List PyData) := fun ρ => (f ρ).bind g
def eL (f : En → Option (List PyData)) : En → Option PyData := fun ρ => (f ρ).map PyData.list
def eNil : En → Option (List PyData) := fun _ => some []
def eCons (f : En → Option PyData) (r : En → Option (List PyData)) : En → Option (List PyData) := fun ρ => (f ρ).bind fun d => (r ρ).map fun ds => d :: ds
def asB : PyData → Option Bool
  | .bool b => some b
  | _ => none
def tB (f : En → Option PyData) : En → Option Bool := fun ρ => (f ρ).bind asB
def tAndD (f g : En → Option Bool) : En → Option Bool := fun ρ => (f ρ).bind fun b => if b = true then g ρ else some false
def tOrD (f g : En → Option Bool) : En → Option Bool := fun ρ => (f ρ).bind fun b => if b = true then some true else g ρ
def tNotD (f : En → Option Bool) : En → Option Bool := fun ρ => (f ρ).map fun b => !b
def eBl (f : En → Option Bool) : En → Option PyData := fun ρ => (f ρ).map PyData.bool
def eIf (t : En → Option Bool) (f g : En → Option PyData) : En → Option PyData := fun ρ => (t ρ).bind fun b => if b = true then f ρ else g ρ

theorem bind_some {α β : Type} {x : Option α} {f : α → Option β} {b : β} (h : x.bind f = some b) : ∃ a, x = some a ∧ f a = some b := by
  cases x with
  | none => cases h
  | some a => exact ⟨a, rfl, h⟩
theorem map_some {α β : Type} {x : Option α} {f : α → β} {b : β} (h : x.map f = some b) : ∃ a, x = some a ∧ f a = b := by
  cases x with
  | none => cases h
  | some a => exact ⟨a, rfl, Option.some.inj h⟩

section
variable {X : Cx} {a b c e : Expr} {es : List Expr} {fa fb fc f : En → Option PyData} {fs : En → Option (List PyData)} {pos p : Pos} {x : Str}

/-! ### names, constants -/
theorem de_var (i : Nat) {x : Str} {pos : Pos} (hN : X.N[i]? = some x := by rfl) (hv : Vis X.env.scope x := by first | exact Or.inl rfl | exact Or.inr (Or.inl rfl) | exact Or.inr (Or.inr rfl)) (hd : (x == ("__debug__" : Str)) = false := by decide)
    (hcd : (x == ("__classdict__" : Str)) = false := by decide) : DE X (.Name x pos) (eVar i) := by
  refine ⟨_, pe_var hN hv hd hcd, fun σ H1 H ρ d Q s h k => ?_⟩
  unfold eVar at h
  split at h
  · rename_i d' e
    cases h
    obtain ⟨v, e1, q⟩ := s.at_ i _ e
    exact ⟨v, e1, k v H1 H (.refl s.sub) q⟩
  · cases h
theorem de_int {i : Int} {j pos} : DE X (.Constant (.int i) j pos) (eC (.int i)) := ⟨_, pe_int, fun _ H1 H _ d _ s h k => by cases h; exact k _ H1 H (.refl s.sub) (.int i)⟩
theorem de_bl {i : Bool} {j pos} : DE X (.Constant (.bool i) j pos) (eC (.bool i)) := ⟨_, pe_bl, fun _ H1 H _ d _ s h k => by cases h; exact k _ H1 H (.refl s.sub) (.bl i)⟩
theorem de_non {j pos} : DE X (.Constant .none j pos) (eC .none) := ⟨_, pe_non, fun _ H1 H _ d _ s h k => by cases h; exact k _ H1 H (.refl s.sub) .non⟩
theorem de_str {i : Str} {j pos} : DE X (.Constant (.str i) j pos) (eC (.str i)) := ⟨_, pe_str, fun _ H1 H _ d _ s h k => by cases h; exact k _ H1 H (.refl s.sub) (.str i)⟩
theorem de_gint {i : Int} {t : Tok} (hg : Gl X x) (hm : X.mg x = some (.int i t)) (hd : (x == ("__debug__" : Str)) = false := by decide) : DE X (.Name x pos) (eC (.int i)) :=
  ⟨_, pe_glob hg hm (v := .int i) ⟨_, rfl⟩ hd, fun _ H1 H _ d _ s h k => by cases h; exact k _ H1 H (.refl s.sub) (.int i)⟩
theorem de_gstr {i : Str} {t : Tok} (hg : Gl X x) (hm : X.mg x = some (.str i t)) (hd : (x == ("__debug__" : Str)) = false := by decide) : DE X (.Name x pos) (eC (.str i)) :=
  ⟨_, pe_glob hg hm (v := .str i) ⟨_, rfl⟩ hd, fun _ H1 H _ d _ s h k => by cases h; exact k _ H1 H (.refl s.sub) (.str i)⟩

/-! ### a new list is data -/
theorem DL.de (h : DL X e fs) : DE X e (eL fs) := by
  obtain ⟨t, ht, q⟩ := h
  refine ⟨t, ht, fun σ H1 H ρ d Q s h k => ?_⟩
  obtain ⟨ds, e1, rfl⟩ := map_some h
  refine q σ H1 H ρ ds Q s e1 fun a vs H1' H' x n e' n' l dl => ?_
  exact k _ _ _ (x.frz n e' n') (.lst (.of upd_same) l (DenL.mono (same_new n') ds vs dl))

/-! ### operators -/
theorem two {ta tb : TE} (qa : ∀ (σ : L2.St) (H1 H : Hp) (ρ : En) (d : PyData) (Q : VK), Sok X.K H1 H σ ρ → fa ρ = some d → (∀ v H1' H', Ext H1 H H1' H' → Den X.K H1' v d → Q v H') → ta σ H Q)
    (qb : ∀ (σ : L2.St) (H1 H : Hp) (ρ : En) (d : PyData) (Q : VK), Sok X.K H1 H σ ρ → fb ρ = some d → (∀ v H1' H', Ext H1 H H1' H' → Den X.K H1' v d → Q v H') → tb σ H Q)
    {σ : L2.St} {H1 H : Hp} {ρ : En} {d e : PyData} {R : V → V → Hp → Prop} (s : Sok X.K H1 H σ ρ) (h1 : fa ρ = some d) (h2 : fb ρ = some e)
    (k : ∀ x y H1' H', Ext H1 H H1' H' → Den X.K H1' x d → Den X.K H1' y e → R x y H') : ta σ H fun x H1 => tb σ H1 fun y H2 => R x y H2 :=
  qa σ H1 H ρ d _ s h1 fun x H1' H' x1 d1 => qb σ H1' H' ρ e _ (s.ext x1) h2 fun y H2 H2' x2 d2 => k x y _ _ (x1.trans x2) (Den.mono x2.st _ _ d1) d2
theorem de_op {op : Operator} {r : R2} {g : PyData → PyData → Option PyData} (ho : OpR X (binaryOp op) r) (hr : V2 X.K r g) (ha : DE X a fa) (hb : DE X b fb) : DE X (.BinOp a op b pos) (e2 g fa fb) := by
  obtain ⟨ta, pa, qa⟩ := ha
  obtain ⟨tb, pb, qb⟩ := hb
  refine ⟨_, pe_op ho pa pb, fun σ H1 H ρ d Q s h k => ?_⟩
  obtain ⟨d1, h1, h⟩ := bind_some h
  obtain ⟨d2, h2, h⟩ := bind_some h
  exact two qa qb s h1 h2 fun x y H1' H' x1 q1 q2 => hr x y d1 d2 d H1' H' Q x1.sub q1 q2 h fun v H2 H2' x2 => k v H2 H2' (x1.trans x2)
theorem dl_op {op : Operator} {r : R2} {g : PyData → PyData → Option (List PyData)} (ho : OpR X (binaryOp op) r) (hr : V2L X.K r g) (ha : DE X a fa) (hb : DE X b fb) : DL X (.BinOp a op b pos) (e2L g fa fb) := by
  obtain ⟨ta, pa, qa⟩ := ha
  obtain ⟨tb, pb, qb⟩ := hb
  refine ⟨_, pe_op ho pa pb, fun σ H1 H ρ d Q s h k => ?_⟩
  obtain ⟨d1, h1, h⟩ := bind_some h
  obtain ⟨d2, h2, h⟩ := bind_some h
  refine two qa qb s h1 h2 fun x y H1' H' x1 q1 q2 => hr x y d1 d2 d H1' H' Q x1.sub q1 q2 h fun p vs H2 H2' x2 n e' n' l dl => k p vs H2 H2' (x1.trans x2) ?_ e' n' l dl
  exact (Ext.same s.sub x1).free n
theorem de_un {op : UnaryOp} {r : V → Hp → VK → Prop} {g : PyData → Option PyData} (ho : UnR X (unaryOp op) r) (hr : V1 X.K r g) (ha : DE X a fa) : DE X (.UnaryOp op a pos) (e1 g fa) := by
  obtain ⟨ta, pa, qa⟩ := ha
  refine ⟨_, pe_un ho pa, fun σ H1 H ρ d Q s h k => ?_⟩
  obtain ⟨d1, h1, h⟩ := bind_some h
  exact qa σ H1 H ρ d1 _ s h1 fun x H1' H' x1 q1 => hr x d1 d H1' H' Q x1.sub q1 h fun v H2 H2' x2 => k v H2 H2' (x1.trans x2)
theorem de_cmp {op : CmpOp} {r : R2} {g : PyData → PyData → Option PyData} (ho : OpR X (compareOp op) r) (hr : V2 X.K r g) (ha : DE X a fa) (hb : DE X b fb) (hm : behindInMarks op b = false) : DE X (.Compare a [op] [b] pos) (e2 g fa fb) := by
  obtain ⟨ta, pa, qa⟩ := ha
  obtain ⟨tb, pb, qb⟩ := hb
  refine ⟨_, pe_cmpR ho pa pb hm, fun σ H1 H ρ d Q s h k => ?_⟩
  obtain ⟨d1, h1, h⟩ := bind_some h
  obtain ⟨d2, h2, h⟩ := bind_some h
  exact two qa qb s h1 h2 fun x y H1' H' x1 q1 q2 => hr x y d1 d2 d H1' H' Q x1.sub q1 q2 h fun v H2 H2' x2 => k v H2 H2' (x1.trans x2)
theorem asB_some {d : PyData} {b : Bool} (h : asB d = some b) : d = .bool b := by
  cases d <;> first | (cases h; rfl) | cases h
theorem den_bl {K : PySem.W.Frag} {H : Hp} {v : V} {b : Bool} (h : Den K H v (.bool b)) : v = .bl b := by cases h; rfl
theorem dt_cmp {op : CmpOp} {r : R2} {g : PyData → PyData → Option PyData} (ho : OpR X (compareOp op) r) (hr : V2 X.K r g) (ha : DE X a fa) (hb : DE X b fb) (hm : behindInMarks op b = false) : DT X (.Compare a [op] [b] pos) (tB (e2 g fa fb)) := by
  obtain ⟨ta, pa, qa⟩ := ha
  obtain ⟨tb, pb, qb⟩ := hb
  refine ⟨_, pt_cmpR ho pa pb hm, fun σ H1 H ρ d Q s h k => ?_⟩
  obtain ⟨d0, h, hb'⟩ := bind_some h
  obtain ⟨d1, h1, h⟩ := bind_some h
  obtain ⟨d2, h2, h⟩ := bind_some h
  have e := asB_some hb'
  subst e
  exact two qa qb s h1 h2 fun x y H1' H' x1 q1 q2 => hr x y d1 d2 _ H1' H' _ x1.sub q1 q2 h fun v H2 H2' x2 dv => ⟨d, den_bl dv, k H2 H2' (x1.trans x2)⟩
/-- a value that is a truth, as a test -/
theorem dt_val (h : DE X e f) (he : ∀ whole, isTrue e X.env whole = (do let v ← whole; standAt e.pos; holding [v] (truthy v)) := by intro _; rfl) : DT X e (tB f) := by
  obtain ⟨t, p, q⟩ := h
  refine ⟨_, pt_val p he, fun σ H1 H ρ d Q s h k => ?_⟩
  obtain ⟨d0, h, hb'⟩ := bind_some h
  have e := asB_some hb'
  subst e
  exact q σ H1 H ρ _ _ s h fun v H1' H' x1 dv => ⟨d, den_bl dv, k _ _ x1⟩
/-! ### and, or, not as tests -/
variable {tf tg : En → Option Bool} {rest : List Expr}
theorem DW.dt (h : DW X e tf) : DT X e tf := let ⟨t, p, q⟩ := h; ⟨t, p.pt, q⟩
theorem dw_and1 (h : DT X a tf) : DW X (.BoolOp .And [a] pos) tf := let ⟨t, p, q⟩ := h; ⟨t, pw_and1 p, q⟩
theorem dw_or1 (h : DT X a tf) : DW X (.BoolOp .Or [a] pos) tf := let ⟨t, p, q⟩ := h; ⟨t, pw_or1 p, q⟩
theorem dw_and (h : DT X a tf) (h' : DW X (.BoolOp .And (b :: rest) pos) tg) : DW X (.BoolOp .And (a :: b :: rest) pos) (tAndD tf tg) := by
  obtain ⟨t, p, q⟩ := h
  obtain ⟨t', p', q'⟩ := h'
  refine ⟨_, pw_and p p', fun σ H1 H ρ d Q s h k => ?_⟩
  obtain ⟨c, h1, h⟩ := bind_some h
  refine q σ H1 H ρ c _ s h1 fun H1' H' x1 => ?_
  cases c with
  | true => exact q' σ H1' H' ρ d Q (s.ext x1) h fun H2 H2' x2 => k _ _ (x1.trans x2)
  | false =>
    cases h
    exact k _ _ x1
theorem dw_or (h : DT X a tf) (h' : DW X (.BoolOp .Or (b :: rest) pos) tg) : DW X (.BoolOp .Or (a :: b :: rest) pos) (tOrD tf tg) := by
  obtain ⟨t, p, q⟩ := h
  obtain ⟨t', p', q'⟩ := h'
  refine ⟨_, pw_or p p', fun σ H1 H ρ d Q s h k => ?_⟩
  obtain ⟨c, h1, h⟩ := bind_some h
  refine q σ H1 H ρ c _ s h1 fun H1' H' x1 => ?_
  cases c with
  | false => exact q' σ H1' H' ρ d Q (s.ext x1) h fun H2 H2' x2 => k _ _ (x1.trans x2)
  | true =>
    cases h
    exact k _ _ x1
theorem dt_not (h : DT X a tf) : DT X (.UnaryOp .Not a pos) (tNotD tf) := by
  obtain ⟨t, p, q⟩ := h
  refine ⟨_, pt_not p, fun σ H1 H ρ d Q s h k => ?_⟩
  obtain ⟨c, h1, rfl⟩ := map_some h
  exact q σ H1 H ρ c _ s h1 fun H1' H' x1 => k _ _ x1
/-! ### .. as values -/
theorem de_one {op} (h : DE X a fa) : DE X (.BoolOp op [a] pos) fa := let ⟨t, p, q⟩ := h; ⟨t, pe_one p, q⟩
def eAnd (f g : En → Option PyData) : En → Option PyData := fun ρ => (tB f ρ).bind fun b => if b = true then g ρ else some (.bool false)
def eOr (f g : En → Option PyData) : En → Option PyData := fun ρ => (tB f ρ).bind fun b => if b = true then some (.bool true) else g ρ
def eNot (f : En → Option PyData) : En → Option PyData := fun ρ => (tB f ρ).map fun b => .bool (!b)
theorem de_and (h : DE X a fa) (h' : DE X (.BoolOp .And (b :: rest) pos) fb) : DE X (.BoolOp .And (a :: b :: rest) pos) (eAnd fa fb) := by
  obtain ⟨t, p, q⟩ := h
  obtain ⟨t', p', q'⟩ := h'
  refine ⟨_, pe_and p p', fun σ H1 H ρ d Q s h k => ?_⟩
  obtain ⟨c, h1, h⟩ := bind_some h
  obtain ⟨d0, h1, hb'⟩ := bind_some h1
  have e := asB_some hb'
  subst e
  refine q σ H1 H ρ _ _ s h1 fun v H1' H' x1 dv => ⟨c, den_bl dv, ?_⟩
  cases c with
  | true => exact q' σ H1' H' ρ d Q (s.ext x1) h fun v H2 H2' x2 => k _ _ _ (x1.trans x2)
  | false =>
    cases h
    exact k _ _ _ x1 (.bl _)
theorem de_or (h : DE X a fa) (h' : DE X (.BoolOp .Or (b :: rest) pos) fb) : DE X (.BoolOp .Or (a :: b :: rest) pos) (eOr fa fb) := by
  obtain ⟨t, p, q⟩ := h
  obtain ⟨t', p', q'⟩ := h'
  refine ⟨_, pe_or p p', fun σ H1 H ρ d Q s h k => ?_⟩
  obtain ⟨c, h1, h⟩ := bind_some h
  obtain ⟨d0, h1, hb'⟩ := bind_some h1
  have e := asB_some hb'
  subst e
  refine q σ H1 H ρ _ _ s h1 fun v H1' H' x1 dv => ⟨c, den_bl dv, ?_⟩
  cases c with
  | false => exact q' σ H1' H' ρ d Q (s.ext x1) h fun v H2 H2' x2 => k _ _ _ (x1.trans x2)
  | true =>
    cases h
    exact k _ _ _ x1 (.bl _)
theorem de_not (h : DE X a fa) : DE X (.UnaryOp .Not a pos) (eNot fa) := by
  obtain ⟨t, p, q⟩ := h
  refine ⟨_, pe_not p, fun σ H1 H ρ d Q s h k => ?_⟩
  obtain ⟨c, h1, rfl⟩ := map_some h
  obtain ⟨d0, h1, hb'⟩ := bind_some h1
  have e := asB_some hb'
  subst e
  exact q σ H1 H ρ _ _ s h1 fun v H1' H' x1 dv => ⟨c, den_bl dv, k _ _ _ x1 (.bl _)⟩
theorem de_if (hc : DT X c tf) (ha : DE X a fa) (hb : DE X b fb) : DE X (.IfExp c a b pos) (eIf tf fa fb) := by
  obtain ⟨t, p, q⟩ := hc
  obtain ⟨ta, pa, qa⟩ := ha
  obtain ⟨tb, pb, qb⟩ := hb
  refine ⟨_, pe_ifExp p pa pb, fun σ H1 H ρ d Q s h k => ?_⟩
  obtain ⟨c, h1, h⟩ := bind_some h
  refine q σ H1 H ρ c _ s h1 fun H1' H' x1 => ?_
  cases c with
  | true => exact qa σ H1' H' ρ d Q (s.ext x1) h fun v H2 H2' x2 => k _ _ _ (x1.trans x2)
  | false => exact qb σ H1' H' ρ d Q (s.ext x1) h fun v H2 H2' x2 => k _ _ _ (x1.trans x2)
/-! ### arguments, displays -/
theorem da_nil : DA X [] eNil := ⟨_, pa_nil, fun σ H1 H ρ d Q s h k => by cases h; exact k [] H1 H (.refl s.sub) .nil⟩
theorem da_cons (ha : DE X a fa) (hr : DA X es fs) (hs : starEach (a :: es) X.env = (false, eval a X.env) :: starEach es X.env := by rfl) : DA X (a :: es) (eCons fa fs) := by
  obtain ⟨ta, pa, qa⟩ := ha
  obtain ⟨tr, pr, qr⟩ := hr
  refine ⟨_, pa_cons pa pr hs, fun σ H1 H ρ d Q s h k => ?_⟩
  obtain ⟨d1, h1, h⟩ := bind_some h
  obtain ⟨dr, h2, rfl⟩ := map_some h
  exact qa σ H1 H ρ d1 _ s h1 fun v H1' H' x1 q1 => qr σ H1' H' ρ dr _ (s.ext x1) h2 fun vs H2 H2' x2 q2 => k _ _ _ (x1.trans x2) (.cons (Den.mono x2.st _ _ q1) q2)
def mkT (ds : List PyData) : Option PyData := if ds.length ≤ sizeLine then some (.tuple ds) else none
def mkL (ds : List PyData) : Option (List PyData) := if ds.length ≤ sizeLine then some ds else none
theorem de_tup {k} (h : DA X es fs) : DE X (.Tuple es k pos) (eN mkT fs) := by
  obtain ⟨t, p, q⟩ := h
  refine ⟨_, pe_tup p, fun σ H1 H ρ d Q s h k => ?_⟩
  obtain ⟨ds, h1, h⟩ := bind_some h
  unfold mkT at h
  split at h
  · cases h
    rename_i hl
    refine q σ H1 H ρ ds _ s h1 fun vs H1' H' x1 q1 => ⟨by rw [q1.length]; exact hl, fun p n => ?_⟩
    exact k _ _ _ (x1.trans (.new x1.sub n)) (.tup (.of upd_same) hl (DenL.mono (same_new (x1.sub.free n)) _ _ q1))
  · cases h
theorem dl_lst (h : DA X es fs) : DL X (.List es pos) (eNL mkL fs) := by
  obtain ⟨t, p, q⟩ := h
  refine ⟨_, pe_lst p, fun σ H1 H ρ d Q s h k => ?_⟩
  obtain ⟨ds, h1, h⟩ := bind_some h
  unfold mkL at h
  split at h
  · cases h
    rename_i hl
    refine q σ H1 H ρ d _ s h1 fun vs H1' H' x1 q1 => ⟨by rw [q1.length]; exact hl, fun p n => ?_⟩
    exact k p vs H1' _ (x1.trans (.newMut x1.sub n)) ((Ext.same s.sub x1).free n) upd_same (x1.sub.free n) hl q1
  · cases h
/-! ### calls of built-ins -/
theorem de_callB {id : String} {r : List V → Hp → VK → Prop} {g : List PyData → Option PyData} (hc : CallR X (.builtin id) r) (hr : VN X.K r g) (hg : Gl X x) (hm : X.mg x = none) (hv : bootBuiltins x = some (.builtin id)) (ha : DA X (a :: es) fs) (hn : x ≠ "__name__" := by decide) (hdb : (x == ("__debug__" : Str)) = false := by decide)
    (hst : starEach (a :: es) X.env = (false, eval a X.env) :: starEach es X.env := by rfl) (hpl : (backTo pos (starEach es X.env)).any (·.1) = false := by rfl) : DE X (.Call (.Name x p) (a :: es) [] pos) (eN g fs) := by
  obtain ⟨t, pt, q⟩ := ha
  refine ⟨_, pe_callB hc hg hm hv pt hn hdb hst hpl, fun σ H1 H ρ d Q s h k => ?_⟩
  obtain ⟨ds, h1, h⟩ := bind_some h
  exact q σ H1 H ρ ds _ s h1 fun vs H1' H' x1 q1 => hr vs ds d H1' H' Q x1.sub q1 h fun v H2 H2' x2 => k _ _ _ (x1.trans x2)
theorem de_callTy {T : String} {r : List V → Hp → VK → Prop} {g : List PyData → Option PyData} (hc : CallR X (.type T) r) (hr : VN X.K r g) (hg : Gl X x) (hm : X.mg x = none) (hv : bootBuiltins x = some (.type T)) (ha : DA X (a :: es) fs) (hn : x ≠ "__name__" := by decide) (hdb : (x == ("__debug__" : Str)) = false := by decide)
    (hst : starEach (a :: es) X.env = (false, eval a X.env) :: starEach es X.env := by rfl) (hpl : (backTo pos (starEach es X.env)).any (·.1) = false := by rfl) : DE X (.Call (.Name x p) (a :: es) [] pos) (eN g fs) := by
  obtain ⟨t, pt, q⟩ := ha
  refine ⟨_, pe_callTy hc hg hm hv pt hn hdb hst hpl, fun σ H1 H ρ d Q s h k => ?_⟩
  obtain ⟨ds, h1, h⟩ := bind_some h
  exact q σ H1 H ρ ds _ s h1 fun vs H1' H' x1 q1 => hr vs ds d H1' H' Q x1.sub q1 h fun v H2 H2' x2 => k _ _ _ (x1.trans x2)
theorem dl_callB {id : String} {r : List V → Hp → VK → Prop} {g : List PyData → Option (List PyData)} (hc : CallR X (.builtin id) r) (hr : VNL X.K r g) (hg : Gl X x) (hm : X.mg x = none) (hv : bootBuiltins x = some (.builtin id)) (ha : DA X (a :: es) fs) (hn : x ≠ "__name__" := by decide) (hdb : (x == ("__debug__" : Str)) = false := by decide)
    (hst : starEach (a :: es) X.env = (false, eval a X.env) :: starEach es X.env := by rfl) (hpl : (backTo pos (starEach es X.env)).any (·.1) = false := by rfl) : DL X (.Call (.Name x p) (a :: es) [] pos) (eNL g fs) := by
  obtain ⟨t, pt, q⟩ := ha
  refine ⟨_, pe_callB hc hg hm hv pt hn hdb hst hpl, fun σ H1 H ρ d Q s h k => ?_⟩
  obtain ⟨ds, h1, h⟩ := bind_some h
  exact q σ H1 H ρ ds _ s h1 fun vs H1' H' x1 q1 => hr vs ds d H1' H' Q x1.sub q1 h fun p ws H2 H2' x2 n e' n' l dl => k _ _ _ _ (x1.trans x2) ((Ext.same s.sub x1).free n) e' n' l dl
theorem dl_callTy {T : String} {r : List V → Hp → VK → Prop} {g : List PyData → Option (List PyData)} (hc : CallR X (.type T) r) (hr : VNL X.K r g) (hg : Gl X x) (hm : X.mg x = none) (hv : bootBuiltins x = some (.type T)) (ha : DA X (a :: es) fs) (hn : x ≠ "__name__" := by decide) (hdb : (x == ("__debug__" : Str)) = false := by decide)
    (hst : starEach (a :: es) X.env = (false, eval a X.env) :: starEach es X.env := by rfl) (hpl : (backTo pos (starEach es X.env)).any (·.1) = false := by rfl) : DL X (.Call (.Name x p) (a :: es) [] pos) (eNL g fs) := by
  obtain ⟨t, pt, q⟩ := ha
  refine ⟨_, pe_callTy hc hg hm hv pt hn hdb hst hpl, fun σ H1 H ρ d Q s h k => ?_⟩
  obtain ⟨ds, h1, h⟩ := bind_some h
  exact q σ H1 H ρ ds _ s h1 fun vs H1' H' x1 q1 => hr vs ds d H1' H' Q x1.sub q1 h fun p ws H2 H2' x2 n e' n' l dl => k _ _ _ _ (x1.trans x2) ((Ext.same s.sub x1).free n) e' n' l dl
end
end Dv

namespace Dv
open PySem PySem.Spec PyProof.Rows L2

/-! ### readings told by the functions -/
def rdE (K : PySem.W.Frag) (f : En → Option PyData) : TE := fun σ H Q => ∃ (H1 : Hp) (ρ : En) (d : PyData), Sok K H1 H σ ρ ∧ f ρ = some d ∧ ∀ v H1' H', Ext H1 H H1' H' → Den K H1' v d → Q v H'
theorem DE.pe {X : Cx} {e : Expr} {f : En → Option PyData} (h : DE X e f) : PE X e (rdE X.K f) := by
  obtain ⟨t, p, q⟩ := h
  exact ⟨fun pins s σ H Q I ⟨H1, ρ, d, sk, hf, k⟩ => p.run pins s σ H Q I (q σ H1 H ρ d Q sk hf k)⟩
def rdT (K : PySem.W.Frag) (f : En → Option Bool) : TT := fun σ H Q => ∃ (H1 : Hp) (ρ : En) (d : Bool), Sok K H1 H σ ρ ∧ f ρ = some d ∧ ∀ H1' H', Ext H1 H H1' H' → Q d H'
theorem DT.pt {X : Cx} {e : Expr} {f : En → Option Bool} (h : DT X e f) : PT X e (rdT X.K f) := by
  obtain ⟨t, p, q⟩ := h
  exact ⟨fun pins s σ H Q I ⟨H1, ρ, d, sk, hf, k⟩ => p.run pins s σ H Q I (q σ H1 H ρ d Q sk hf k)⟩

/-! ### statements -/
inductive Out where
  | nx (ρ : En)
  | rt (d : PyData)
  | bk (ρ : En)
  | ct (ρ : En)
structure Sst (K : PySem.W.Frag) (B1 B H1 H : Hp) (σ : L2.St) (ρ : En) : Prop where
  sok : Sok K H1 H σ ρ
  bs : Same B1 B
  fr : Ext B1 B H1 H
  own : ∀ (i : Nat) w v b, ρ[i]? = some (some w) → σ[i]? = some (some v) → Owned H v b w → B b = none
theorem Sst.same {K : PySem.W.Frag} {B1 B H1 H : Hp} {σ : L2.St} {ρ : En} (s : Sst K B1 B H1 H σ ρ) : Same B H := s.fr.same s.bs
theorem Sst.ext {K : PySem.W.Frag} {B1 B H1 H H1' H' : Hp} {σ : L2.St} {ρ : En} (s : Sst K B1 B H1 H σ ρ) (x : Ext H1 H H1' H') : Sst K B1 B H1' H' σ ρ := ⟨s.sok.ext x, s.bs, s.fr.trans x, fun i w v b e f o => by
    obtain ⟨u, g1, q1⟩ := s.sok.at_ i w e
    rw [f] at g1
    cases g1
    have sm := x.same s.sok.sub
    exact s.own i w v b e f (o.back q1 fun a o _ h => sm _ _ h)⟩
theorem Sst.set {K : PySem.W.Frag} {B1 B H1 H : Hp} {σ : L2.St} {ρ : En} {v : V} {d : PyData} (s : Sst K B1 B H1 H σ ρ) (i : Nat) (q : Den K H1 v d) : Sst K B1 B H1 H (σ.set i (some v)) (ρ.set i (some (.im d))) := by
  refine ⟨s.sok.set i q, s.bs, s.fr, fun j w a b e f m => ?_⟩
  have n : i ≠ j := fun hj => by
    subst hj
    have hl : i < ρ.length := by
      have := (List.getElem?_eq_some_iff.mp e).1
      rwa [List.length_set] at this
    rw [List.getElem?_set_self hl] at e
    cases e
    exact m
  rw [List.getElem?_set_ne n] at e f
  exact s.own j w a b e f m
theorem W.mut_ref {K : PySem.W.Frag} {H1 H : Hp} {v : V} {w : W} (m : w.mut) (q : WOk K H1 H v w) : ∃ a o, v = .ref a ∧ H a = some o ∧ H1 a = none := by
  cases w with
  | im d => exact m.elim
  | xo a c => exact m.elim
  | fo C fs => exact m.elim
  | so C a dx fs => exact m.elim
  | ob C fs => exact m.elim
  | ml ds =>
    obtain ⟨a, vs, rfl, e, n, _⟩ := q
    exact ⟨a, _, rfl, e, n⟩
  | md ds =>
    obtain ⟨a, vs, rfl, e, n, _⟩ := q
    exact ⟨a, _, rfl, e, n⟩
  | mm ds =>
    obtain ⟨a, vs, rfl, e, n, _⟩ := q
    exact ⟨a, _, rfl, e, n⟩
theorem Sok.own_eq {K : PySem.W.Frag} {H1 H : Hp} {σ : L2.St} {ρ : En} (s : Sok K H1 H σ ρ) {i j : Nat} {w w' : W} {a : Addr} (e : ρ[i]? = some (some w)) (m : w.mut) (e2 : ρ[j]? = some (some w')) (m2 : w'.mut) (f : σ[i]? = some (some (.ref a))) (f2 : σ[j]? = some (some (.ref a))) : i = j := by
  have o : ∀ {u : W}, u.mut → Owned H (.ref a) a u := fun {u} m => by
    cases u with
    | im d => exact m.elim
    | xo a c => exact m.elim
    | fo C fs => exact m.elim
    | so C a dx fs => exact m.elim
    | ob C fs => exact m.elim
    | ml d => rfl
    | md d => rfl
    | mm d => exact .inl rfl
  exact s.inj i j w w' _ _ a e e2 f f2 (o m) (o m2)
/-- a slot gets a new thing of its own -/
theorem Sst.setM {K : PySem.W.Frag} {B1 B H1 H H1' H' : Hp} {σ : L2.St} {ρ : En} {a : Addr} {w : W} (s : Sst K B1 B H1 H σ ρ) (i : Nat) (x : Ext H1 H H1' H') (n : ∀ b, Owned H' (.ref a) b w → H b = none) (q : WOk K H1' H' (.ref a) w) :
    Sst K B1 B H1' H' (σ.set i (some (.ref a))) (ρ.set i (some w)) := by
  have s' := s.ext x
  have cs : ∀ {j : Nat} {u}, (ρ.set i (some w))[j]? = some (some u) → (i = j ∧ u = w ∧ i < ρ.length) ∨ (i ≠ j ∧ ρ[j]? = some (some u)) := fun {j u} e => by
    by_cases hj : i = j
    · subst hj
      have hl : i < ρ.length := by
        have := (List.getElem?_eq_some_iff.mp e).1
        rwa [List.length_set] at this
      rw [List.getElem?_set_self hl] at e
      cases e
      exact .inl ⟨rfl, rfl, hl⟩
    · rw [List.getElem?_set_ne hj] at e
      exact .inr ⟨hj, e⟩
  have far : ∀ {j : Nat} {u v b}, ρ[j]? = some (some u) → σ[j]? = some (some v) → Owned H' v b u → H b = none → False := fun {j u v b} e f o hb => by
    obtain ⟨v', e1, q1⟩ := s.sok.at_ j u e
    rw [f] at e1
    cases e1
    have sm := x.same s.sok.sub
    obtain ⟨o', e2, _⟩ := (o.back q1 fun a o _ h => sm _ _ h).at_ q1
    rw [hb] at e2
    cases e2
  have hσ : i < ρ.length → (σ.set i (some (V.ref a)))[i]? = some (some (.ref a)) := fun hl => List.getElem?_set_self (by rw [s.sok.len]; exact hl)
  refine ⟨⟨s'.sok.sub, by rw [List.length_set, List.length_set]; exact s.sok.len, fun j u e => ?_, fun j l u u' v1 v2 b e1 e2 f1 f2 o1 o2 => ?_⟩, s.bs, s'.fr, fun j u v b e f o => ?_⟩
  · rcases cs e with ⟨rfl, rfl, hl⟩ | ⟨hj, e⟩
    · exact ⟨_, hσ hl, q⟩
    · rw [List.getElem?_set_ne hj]
      exact s'.sok.at_ j u e
  · rcases cs e1 with ⟨rfl, rfl, hl⟩ | ⟨hj, e3⟩
    · rcases cs e2 with ⟨rfl, rfl, _⟩ | ⟨hk, e2⟩
      · rfl
      · rw [hσ hl] at f1
        cases f1
        rw [List.getElem?_set_ne hk] at f2
        exact (far e2 f2 o2 (n b o1)).elim
    · rcases cs e2 with ⟨q1, q2, hl⟩ | ⟨hk, e2⟩
      · rw [← q1, hσ hl] at f2
        cases f2
        rw [List.getElem?_set_ne hj] at f1
        subst q2
        exact (far e3 f1 o1 (n b o2)).elim
      · rw [List.getElem?_set_ne hj] at f1
        rw [List.getElem?_set_ne hk] at f2
        exact s.ext x |>.sok.inj j l u u' v1 v2 b e3 e2 f1 f2 o1 o2
  · rcases cs e with ⟨rfl, rfl, hl⟩ | ⟨hj, e⟩
    · rw [hσ hl] at f
      cases f
      exact s.same.free (n b o)
    · rw [List.getElem?_set_ne hj] at f
      exact s'.own j u v b e f o
theorem RowsOk.upd {K : PySem.W.Frag} {H1 H : Hp} {a : Addr} {o : HO} : ∀ {ks : List Addr} {rows : List (List PyData)}, RowsOk K H1 H ks rows → (∀ b ∈ ks, b ≠ a) → RowsOk K H1 (L2.upd H a o) ks rows
  | _, _, .nil, _ => .nil
  | _, _, .cons ⟨vs, h1, h2⟩ t, h => .cons ⟨vs, by rw [upd_ne (h _ (List.mem_cons_self ..))]; exact h1, h2⟩ (RowsOk.upd t fun b hb => h b (List.mem_cons_of_mem _ hb))
theorem InsOk.upd {K : PySem.W.Frag} {H1 H : Hp} {C a dx b : Addr} {o : HO} {fs : List (Str × PyData)} (h : InsOk K H1 H C a dx fs) (n1 : a ≠ b) (n2 : dx ≠ b) : InsOk K H1 (L2.upd H b o) C a dx fs := by
  obtain ⟨fsV, q1, q2, q⟩ := h
  exact ⟨fsV, by rw [upd_ne n1]; exact q1, by rw [upd_ne n2]; exact q2, q⟩
theorem WOk.upd {K : PySem.W.Frag} {H1 H : Hp} {a : Addr} {o : HO} {v : V} {u : W} (q : WOk K H1 H v u) (h : ∀ b, Owned H v b u → b ≠ a) : WOk K H1 (L2.upd H a o) v u := by
  cases u with
  | im d => exact q
  | xo a c => exact q
  | fo C fs => exact q
  | so C a' dx fs => exact ⟨q.1, q.2.upd (h _ ⟨q.1, .inl rfl⟩) (h _ ⟨q.1, .inr rfl⟩)⟩
  | ob C fs =>
    obtain ⟨a', dx, rfl, q⟩ := q
    obtain ⟨fsV, q1, _⟩ := id q
    exact ⟨a', dx, rfl, q.upd (h _ (.inl rfl)) (h _ (.inr ⟨a', dx, fsV, rfl, q1, rfl⟩))⟩
  | ml ds =>
    obtain ⟨b, vs, rfl, z1, z⟩ := q
    exact ⟨b, vs, rfl, by rw [upd_ne (h b rfl)]; exact z1, z⟩
  | md ds =>
    obtain ⟨b, vs, rfl, z1, z⟩ := q
    exact ⟨b, vs, rfl, by rw [upd_ne (h b rfl)]; exact z1, z⟩
  | mm rows =>
    obtain ⟨b, ks, rfl, z1, z2, z3, z4, z5, z6⟩ := q
    exact ⟨b, ks, rfl, by rw [upd_ne (h b (.inl rfl))]; exact z1, z2, z3, z4, z5, z6.upd fun c hc => h c (.inr ⟨b, ks, rfl, z1, hc⟩)⟩
theorem Owned.head {H : Hp} {a b : Addr} {v : V} {u : W} (h : Owned H v b u) (hv : v = .ref a) : Owned H v a u := by
  cases u with
  | im d => exact h
  | xo a c => exact h
  | fo C fs => exact h
  | so C a' dx fs =>
    refine ⟨h.1, .inl ?_⟩
    have e := hv.symm.trans h.1
    cases e
    rfl
  | ob C fs => exact .inl hv
  | ml ds => exact hv
  | md ds => exact hv
  | mm rows => exact .inl hv
/-- one of the things of a slot is changed; what it has besides is new -/
theorem Sst.change {K : PySem.W.Frag} {B1 B H1 H : Hp} {σ : L2.St} {ρ : En} {a : Addr} {v : V} {w w' : W} {o : HO} (s : Sst K B1 B H1 H σ ρ) {i : Nat} (e : ρ[i]? = some (some w)) (e' : σ[i]? = some (some v)) (oa : Owned H v a w)
    (q : WOk K H1 (upd H a o) v w') (ow : ∀ b, Owned (upd H a o) v b w' → Owned H v b w ∨ (B b = none ∧ ∀ (j : Nat) u v', i ≠ j → ρ[j]? = some (some u) → σ[j]? = some (some v') → ¬ Owned H v' b u)) : Sst K B1 B H1 (upd H a o) σ (ρ.set i (some w')) := by
  have hl : i < ρ.length := (List.getElem?_eq_some_iff.mp e).1
  have hB : B a = none := s.own i w v a e e' oa
  have n : H1 a = none := by
    obtain ⟨v1, f1, q1⟩ := s.sok.at_ i w e
    rw [e'] at f1
    cases f1
    obtain ⟨_, _, h⟩ := oa.at_ q1
    exact h
  have cs : ∀ {j : Nat} {u}, (ρ.set i (some w'))[j]? = some (some u) → (i = j ∧ u = w') ∨ (i ≠ j ∧ ρ[j]? = some (some u)) := fun {j u} e => by
    by_cases hj : i = j
    · subst hj
      rw [List.getElem?_set_self hl] at e
      cases e
      exact .inl ⟨rfl, rfl⟩
    · rw [List.getElem?_set_ne hj] at e
      exact .inr ⟨hj, e⟩
  have far : ∀ {j : Nat} {u v' b}, i ≠ j → ρ[j]? = some (some u) → σ[j]? = some (some v') → Owned H v' b u → b ≠ a := fun {j u v' b} hj e2 f2 o2 h => by
    subst h
    exact hj (s.sok.inj i j w u v v' b e e2 e' f2 oa o2)
  have bk : ∀ {j : Nat} {u v' b}, i ≠ j → ρ[j]? = some (some u) → σ[j]? = some (some v') → Owned (upd H a o) v' b u → Owned H v' b u := fun {j u v' b} hj e2 f2 o2 => by
    obtain ⟨v1, f1, q1⟩ := s.sok.at_ j u e2
    rw [f2] at f1
    cases f1
    refine o2.back q1 fun c x hv hc => ?_
    have ho : Owned H v' c u := by
      cases u with
      | im d => exact o2
      | xo a c => exact o2
      | fo C fs => exact o2
      | so C a' dx fs =>
        refine ⟨o2.1, .inl ?_⟩
        have e := hv.symm.trans o2.1
        cases e
        rfl
      | ob C fs => exact .inl hv
      | ml ds => exact hv
      | md ds => exact hv
      | mm rows => exact .inl hv
    rw [upd_ne (far hj e2 f2 ho)]
    exact hc
  refine ⟨⟨fun b x z => ?_, by rw [List.length_set]; exact s.sok.len, fun j u e2 => ?_, fun j l u u' v1 v2 b e1 e2 f1 f2 o1 o2 => ?_⟩, s.bs, ⟨s.fr.st, fun b x z => ?_, fun b x z y => ?_⟩, fun j u v1 b e2 f o2 => ?_⟩
  · rw [upd_ne (ne_of_none z n)]; exact s.sok.sub _ _ z
  · rcases cs e2 with ⟨rfl, rfl⟩ | ⟨hj, e2⟩
    · exact ⟨_, e', q⟩
    · obtain ⟨v1, f, z⟩ := s.sok.at_ j u e2
      exact ⟨v1, f, z.upd fun b ob => far hj e2 f ob⟩
  · rcases cs e1 with ⟨rfl, rfl⟩ | ⟨hj, e3⟩
    · rcases cs e2 with ⟨rfl, rfl⟩ | ⟨hk, e2⟩
      · rfl
      · rw [e'] at f1
        cases f1
        rcases ow b o1 with h | ⟨_, h⟩
        · exact s.sok.inj _ _ w u' v v2 b e e2 e' f2 h (bk hk e2 f2 o2)
        · exact (h l u' v2 hk e2 f2 (bk hk e2 f2 o2)).elim
    · rcases cs e2 with ⟨q1, q2⟩ | ⟨hk, e2⟩
      · subst q1
        subst q2
        rw [e'] at f2
        cases f2
        rcases ow b o2 with h | ⟨_, h⟩
        · exact s.sok.inj _ _ u w v1 v b e3 e f1 e' (bk hj e3 f1 o1) h
        · exact (h j u v1 hj e3 f1 (bk hj e3 f1 o1)).elim
      · exact s.sok.inj j l u u' v1 v2 b e3 e2 f1 f2 (bk hj e3 f1 o1) (bk hk e2 f2 o2)
  · rw [upd_ne (ne_of_none z n)]; exact s.fr.sub _ _ z
  · obtain ⟨z1, z2⟩ := s.fr.fr b x z y
    rw [upd_ne (ne_of_none z hB)]
    exact ⟨z1, z2⟩
  · rcases cs e2 with ⟨rfl, rfl⟩ | ⟨hj, e2⟩
    · rw [e'] at f
      cases f
      rcases ow b o2 with h | ⟨h, _⟩
      · exact s.own _ w v b e e' h
      · exact h
    · exact s.own j u v1 b e2 f (bk hj e2 f o2)
/-- the thing of a slot is changed -/
theorem Sst.mutate {K : PySem.W.Frag} {B1 B H1 H : Hp} {σ : L2.St} {ρ : En} {a : Addr} {w w' : W} {o : HO} (s : Sst K B1 B H1 H σ ρ) {i : Nat} (e : ρ[i]? = some (some w)) (m : w.mut) (e' : σ[i]? = some (some (.ref a))) (n : H1 a = none) (m' : ∀ b, Owned (upd H a o) (.ref a) b w' → b = a)
    (q : WOk K H1 (upd H a o) (.ref a) w') : Sst K B1 B H1 (upd H a o) σ (ρ.set i (some w')) := by
  have oa : Owned H (.ref a) a w := by
    cases w with
    | im d => exact m.elim
    | xo a c => exact m.elim
    | fo C fs => exact m.elim
    | so C a dx fs => exact m.elim
    | ob C fs => exact m.elim
    | ml d => rfl
    | md d => rfl
    | mm d => exact .inl rfl
  exact s.change e e' oa q fun b h => .inl (by rw [m' b h]; exact oa)
/-- the list of a slot becomes plain data -/
def frz (i : Nat) (ρ : En) : En := match ρ[i]? with
  | some (some (.ml ds)) => ρ.set i (some (.im (.list ds)))
  | _ => ρ
theorem RowsOk.stable {K : PySem.W.Frag} {H1 H : Hp} {a : Addr} {o : HO} (sm : Same H1 (L2.upd H1 a o)) : ∀ {ks : List Addr} {rows : List (List PyData)}, RowsOk K H1 H ks rows → (∀ b ∈ ks, b ≠ a) → RowsOk K (L2.upd H1 a o) H ks rows
  | _, _, .nil, _ => .nil
  | _, _, .cons ⟨vs, h1, h2, h3, h4⟩ t, h => .cons ⟨vs, h1, by rw [upd_ne (h _ (List.mem_cons_self ..))]; exact h2, h3, DenL.mono sm _ _ h4⟩ (RowsOk.stable sm t fun b hb => h b (List.mem_cons_of_mem _ hb))
theorem Sst.frz {K : PySem.W.Frag} {B1 B H1 H : Hp} {σ : L2.St} {ρ : En} (s : Sst K B1 B H1 H σ ρ) (i : Nat) : ∃ H1', Same H1 H1' ∧ Sst K B1 B H1' H σ (frz i ρ) := by
  unfold Dv.frz
  split
  · rename_i ds e
    have hl : i < ρ.length := (List.getElem?_eq_some_iff.mp e).1
    obtain ⟨v, e', a, vs, rfl, h1, h2, h3, h4⟩ := s.sok.at_ i _ e
    have hB : B a = none := s.own i _ _ a e e' rfl
    have sm : Same H1 (upd H1 a (.lst vs)) := same_new h2
    have cs : ∀ {j : Nat} {u}, (ρ.set i (some (.im (.list ds))))[j]? = some (some u) → (i = j ∧ u = .im (.list ds)) ∨ (i ≠ j ∧ ρ[j]? = some (some u)) := fun {j u} e => by
      by_cases hj : i = j
      · subst hj
        rw [List.getElem?_set_self hl] at e
        cases e
        exact .inl ⟨rfl, rfl⟩
      · rw [List.getElem?_set_ne hj] at e
        exact .inr ⟨hj, e⟩
    have sb : Same (upd H1 a (.lst vs)) H := fun b x z => by
      by_cases hb : b = a
      · subst hb; rw [upd_same] at z; rw [← z]; exact h1
      · rw [upd_ne hb] at z; exact s.sok.sub _ _ z
    refine ⟨upd H1 a (.lst vs), sm, ⟨sb, by rw [List.length_set]; exact s.sok.len, fun j u e2 => ?_, fun j l u u' v1 v2 b e1 e2 f1 f2 m1 m2 => ?_⟩, s.bs, ⟨s.fr.st.trans sm, sb, fun b x z y => ?_⟩, fun j u v1 b e2 f m2 => ?_⟩
    · rcases cs e2 with ⟨rfl, rfl⟩ | ⟨hj, e2⟩
      · exact ⟨_, e', .lst (.of upd_same) h3 (DenL.mono sm _ _ h4)⟩
      · obtain ⟨v, f, z⟩ := s.sok.at_ j u e2
        refine ⟨v, f, ?_⟩
        cases u with
        | im d => exact Den.mono sm _ _ z
        | xo a c => exact z
        | fo C fs =>
          obtain ⟨b, dx, fsV, e0, z1, z2, z3, z4⟩ := z
          exact ⟨b, dx, fsV, e0, sm _ _ z1, sm _ _ z2, z3, z4.mono sm⟩
        | so C b dx fs =>
          obtain ⟨e0, fsV, z1, z2, z3, z4, z5, z6⟩ := z
          have n1 : b ≠ a := fun h => hj (s.sok.inj i j _ _ _ _ a e e2 e' f rfl ⟨e0, .inl h.symm⟩)
          have n2 : dx ≠ a := fun h => hj (s.sok.inj i j _ _ _ _ a e e2 e' f rfl ⟨e0, .inr h.symm⟩)
          exact ⟨e0, fsV, z1, z2, by rw [upd_ne n1]; exact z3, by rw [upd_ne n2]; exact z4, z5, z6.mono sm⟩
        | ob C fs =>
          obtain ⟨b, dx, e0, fsV, z1, z2, z3, z4, z5, z6⟩ := z
          have n1 : b ≠ a := fun h => hj (s.sok.inj i j _ _ _ _ a e e2 e' f rfl (.inl (by rw [e0, h])))
          have n2 : dx ≠ a := fun h => hj (s.sok.inj i j _ _ _ _ a e e2 e' f rfl (.inr ⟨b, dx, fsV, e0, z1, h.symm⟩))
          exact ⟨b, dx, e0, fsV, z1, z2, by rw [upd_ne n1]; exact z3, by rw [upd_ne n2]; exact z4, z5, z6.mono sm⟩
        | ml es =>
          obtain ⟨b, ws, rfl, z1, z2, z3, z4⟩ := z
          have hb : b ≠ a := fun h => hj (s.sok.own_eq e trivial e2 trivial e' (by rw [f, h]))
          exact ⟨b, ws, rfl, z1, by rw [upd_ne hb]; exact z2, z3, DenL.mono sm _ _ z4⟩
        | md es =>
          obtain ⟨b, ws, rfl, z1, z2, z3, z4⟩ := z
          have hb : b ≠ a := fun h => hj (s.sok.own_eq e trivial e2 trivial e' (by rw [f, h]))
          exact ⟨b, ws, rfl, z1, by rw [upd_ne hb]; exact z2, z3, Paired.mapP z4 fun p z ⟨e1, e2⟩ => ⟨e1, Den.mono sm _ _ e2⟩⟩
        | mm rows =>
          obtain ⟨b, ks, rfl, z1, z2, z3, z4, z5, z6⟩ := z
          have hb : b ≠ a := fun h => hj (s.sok.own_eq e trivial e2 trivial e' (by rw [f, h]))
          refine ⟨b, ks, rfl, z1, by rw [upd_ne hb]; exact z2, z3, z4, z5, ?_⟩
          have hk : ∀ c ∈ ks, c ≠ a := fun c hc h => hj (s.sok.inj i j _ _ _ _ a e e2 e' f rfl (.inr ⟨b, ks, rfl, z1, by rw [← h]; exact hc⟩))
          exact z6.stable sm hk
    · rcases cs e1 with ⟨rfl, rfl⟩ | ⟨hj, e1⟩
      · exact m1.elim
      · rcases cs e2 with ⟨rfl, rfl⟩ | ⟨hk, e2⟩
        · exact m2.elim
        · exact s.sok.inj j l u u' v1 v2 b e1 e2 f1 f2 m1 m2
    · obtain ⟨z1, z2⟩ := s.fr.fr b x z y
      rw [upd_ne (ne_of_none z hB)]
      exact ⟨z1, z2⟩
    · rcases cs e2 with ⟨rfl, rfl⟩ | ⟨hj, e2⟩
      · exact m2.elim
      · exact s.own j u v1 b e2 f m2
  · exact ⟨H1, .refl _, s⟩

def EndsOk (K : PySem.W.Frag) (B1 B H1 : Hp) (D : Ends) : Out → Prop
  | .nx ρ => ∀ σ H1' H', Same H1 H1' → Sst K B1 B H1' H' σ ρ → D.nx σ H'
  | .rt d => ∀ v H1' H', Ext B1 B H1' H' → Den K H1' v d → D.rt v H'
  | .bk ρ => ∀ σ H1' H', Same H1 H1' → Sst K B1 B H1' H' σ ρ → D.bk σ H'
  | .ct ρ => ∀ σ H1' H', Same H1 H1' → Sst K B1 B H1' H' σ ρ → D.ct σ H'
theorem EndsOk.mono {K : PySem.W.Frag} {B1 B H1 H1' : Hp} {D : Ends} {o : Out} (h : EndsOk K B1 B H1 D o) (s : Same H1 H1') : EndsOk K B1 B H1' D o := by
  cases o with
  | nx ρ => exact fun σ H2 H' s' => h σ H2 H' (s.trans s')
  | rt d => exact h
  | bk ρ => exact fun σ H2 H' s' => h σ H2 H' (s.trans s')
  | ct ρ => exact fun σ H2 H' s' => h σ H2 H' (s.trans s')
def DS (X : Cx) (st : Stmt) (f : En → Option Out) : Prop :=
  ∃ t, PS X st t ∧ ∀ (B1 B H1 H : Hp) (σ : L2.St) (ρ : En) (o : Out) (D : Ends), Sst X.K B1 B H1 H σ ρ → f ρ = some o → EndsOk X.K B1 B H1 D o → t D σ H
def DSs (X : Cx) (sts : List Stmt) (f : En → Option Out) : Prop :=
  ∃ t, PSs X sts t ∧ ∀ (B1 B H1 H : Hp) (σ : L2.St) (ρ : En) (o : Out) (D : Ends), Sst X.K B1 B H1 H σ ρ → f ρ = some o → EndsOk X.K B1 B H1 D o → t D σ H
/-- a target -/
def DG (X : Cx) (tg : Expr) (g : PyData → En → Option En) : Prop :=
  ∃ t, PG X tg t ∧ ∀ (B1 B H1 H : Hp) (σ : L2.St) (ρ ρ' : En) (v : V) (d : PyData) (Q : L2.St → Hp → Prop), Sst X.K B1 B H1 H σ ρ → Den X.K H1 v d → g d ρ = some ρ' → (∀ σ' H1' H', Same H1 H1' → Sst X.K B1 B H1' H' σ' ρ' → Q σ' H') → t v σ H Q
def DGs (X : Cx) (tgs : List Expr) (g : List PyData → En → Option En) : Prop :=
  ∃ t, PGs X tgs t ∧ ∀ (B1 B H1 H : Hp) (σ : L2.St) (ρ ρ' : En) (vs : List V) (ds : List PyData) (Q : L2.St → Hp → Prop), Sst X.K B1 B H1 H σ ρ → DenL X.K H1 vs ds → g ds ρ = some ρ' → (∀ σ' H1' H', Same H1 H1' → Sst X.K B1 B H1' H' σ' ρ' → Q σ' H') → t vs σ H Q

/-! ### the functions -/
def gN (i : Nat) : PyData → En → Option En := fun d ρ => some (ρ.set i (some (.im d)))
def gNilD : List PyData → En → Option En := fun ds ρ => match ds with
  | [] => some ρ
  | _ => none
def gConsD (g : PyData → En → Option En) (r : List PyData → En → Option En) : List PyData → En → Option En := fun ds ρ => match ds with
  | [] => none
  | d :: ds => (g d ρ).bind fun ρ' => r ds ρ'
def gT (n : Nat) (g : List PyData → En → Option En) : PyData → En → Option En := fun d ρ => match d with
  | .tuple ds => if ds.length = n then g ds ρ else none
  | _ => none
def gSubK (i : Nat) (k : PyData) (d : PyData) (ρ : En) : Option En := match k, ρ[i]? with
  | .int k, some (some (.ml ds)) => (ixN ds.length k).map fun j => ρ.set i (some (.ml (ds.set j d)))
  | _, _ => none
def gSubM (i : Nat) (fk : En → Option PyData) : PyData → En → Option En := fun d ρ => (fk ρ).bind fun k => gSubK i k d ρ
def appK (i : Nat) (d : PyData) (ρ : En) : Option En := match ρ[i]? with
  | some (some (.ml ds)) => if ds.length < sizeLine then some (ρ.set i (some (.ml (ds ++ [d])))) else none
  | _ => none
def sNil : En → Option Out := fun ρ => some (.nx ρ)
def thenD (g : En → Option Out) : Out → Option Out
  | .nx ρ => g ρ
  | o => some o
def sSeq (f g : En → Option Out) : En → Option Out := fun ρ => (f ρ).bind (thenD g)
def sAsg (f : En → Option PyData) (g : PyData → En → Option En) : En → Option Out := fun ρ => (f ρ).bind fun d => (g d ρ).map Out.nx
def sAsgL (i : Nat) (f : En → Option (List PyData)) : En → Option Out := fun ρ => (f ρ).map fun ds => .nx (ρ.set i (some (.ml ds)))
def sApp (i : Nat) (f : En → Option PyData) : En → Option Out := fun ρ => (f ρ).bind fun d => (appK i d ρ).map Out.nx
def sAug (i : Nat) (g : Int → Int → Int) (f : En → Option PyData) : En → Option Out := fun ρ => match ρ[i]? with
  | some (some (.im (.int a))) => (f ρ).bind fun d => match d with
    | .int b => some (.nx (ρ.set i (some (.im (.int (g a b))))))
    | _ => none
  | _ => none
def sIf (t : En → Option Bool) (f g : En → Option Out) : En → Option Out := fun ρ => (t ρ).bind fun b => if b = true then f ρ else g ρ
def sRet (f : En → Option PyData) : En → Option Out := fun ρ => (f ρ).map Out.rt
def sRetN : En → Option Out := fun _ => some (.rt .none)
def sFrz (i : Nat) (f : En → Option Out) : En → Option Out := fun ρ => f (frz i ρ)
def sBreak : En → Option Out := fun ρ => some (.bk ρ)
def sCont : En → Option Out := fun ρ => some (.ct ρ)
def loopD (go : En → Option Out) : Out → Option Out
  | .nx ρ => go ρ
  | .ct ρ => go ρ
  | .bk ρ => some (.nx ρ)
  | .rt d => some (.rt d)
def forD (g : PyData → En → Option En) (f : En → Option Out) : List PyData → En → Option Out
  | [], ρ => some (.nx ρ)
  | d :: ds, ρ => (g d ρ).bind fun ρ1 => (f ρ1).bind (loopD (forD g f ds))
def sFor (fi : En → Option (List PyData)) (g : PyData → En → Option En) (f : En → Option Out) : En → Option Out := fun ρ => (fi ρ).bind fun ds => forD g f ds ρ
def whileD (t : En → Option Bool) (f : En → Option Out) : Nat → En → Option Out
  | 0, _ => none
  | n + 1, ρ => (t ρ).bind fun b => if b = true then (f ρ).bind (loopD (whileD t f n)) else some (.nx ρ)

section
variable {X : Cx} {a b c e : Expr} {es : List Expr} {fa fb fc f : En → Option PyData} {fs : En → Option (List PyData)} {pos p : Pos} {x : Str} {st : Stmt} {sts : List Stmt} {g h : En → Option Out} {tg : Expr} {tf : En → Option Bool}
theorem dss_nil : DSs X [] sNil := ⟨_, pss_nil, fun B1 B H1 H σ ρ o D s h k => by cases h; exact k σ H1 H (.refl _) s⟩
theorem dss_cons (h1 : DS X st g) (h2 : DSs X sts h) : DSs X (st :: sts) (sSeq g h) := by
  obtain ⟨t, p, q⟩ := h1
  obtain ⟨u, p', q'⟩ := h2
  refine ⟨_, pss_cons p p', fun B1 B H1 H σ ρ o D s e k => ?_⟩
  obtain ⟨o1, e1, e⟩ := bind_some e
  refine q B1 B H1 H σ ρ o1 { D with nx := u D } s e1 ?_
  cases o1 with
  | nx ρ' => exact fun σ' H1' H' sm s' => q' B1 B H1' H' σ' ρ' o D s' e (k.mono sm)
  | rt d => cases e; exact k
  | bk ρ' => cases e; exact k
  | ct ρ' => cases e; exact k
theorem dss_one (h1 : DS X st g) : DSs X [st] g := by
  obtain ⟨t, p, q⟩ := h1
  exact ⟨_, pss_one p, q⟩
theorem dss_frz (i : Nat) (h : DSs X sts g) : DSs X sts (sFrz i g) := by
  obtain ⟨t, p, q⟩ := h
  refine ⟨t, p, fun B1 B H1 H σ ρ o D s e k => ?_⟩
  obtain ⟨H1', sm, s'⟩ := s.frz i
  exact q B1 B H1' H σ _ o D s' e (k.mono sm)
theorem ds_frz (i : Nat) (h : DS X st g) : DS X st (sFrz i g) := by
  obtain ⟨t, p, q⟩ := h
  refine ⟨t, p, fun B1 B H1 H σ ρ o D s e k => ?_⟩
  obtain ⟨H1', sm, s'⟩ := s.frz i
  exact q B1 B H1' H σ _ o D s' e (k.mono sm)
theorem ds_ret (h : DE X e f) : DS X (.Return (some e) pos) (sRet f) := by
  obtain ⟨t, p, q⟩ := h
  refine ⟨_, ps_ret p, fun B1 B H1 H σ ρ o D s e k => ?_⟩
  obtain ⟨d, e1, rfl⟩ := map_some e
  exact q σ H1 H ρ d _ s.sok e1 fun v H1' H' x dv => k v H1' H' (s.fr.trans x) dv
theorem ds_retN : DS X (.Return none pos) sRetN := ⟨_, ps_retN, fun B1 B H1 H σ ρ o D s e k => by cases e; exact k .non H1 H s.fr .non⟩
theorem ds_if {ss us : List Stmt} (hc : DT X c tf) (ha : DSs X ss g) (hb : DSs X us h) : DS X (.If c ss us pos) (sIf tf g h) := by
  obtain ⟨t, p, q⟩ := hc
  obtain ⟨ta, pa, qa⟩ := ha
  obtain ⟨tb, pb, qb⟩ := hb
  refine ⟨_, ps_if p pa pb, fun B1 B H1 H σ ρ o D s e k => ?_⟩
  obtain ⟨c, e1, e⟩ := bind_some e
  refine q σ H1 H ρ c _ s.sok e1 fun H1' H' x => ?_
  cases c with
  | true => exact qa B1 B H1' H' σ ρ o D (s.ext x) e (k.mono x.st)
  | false => exact qb B1 B H1' H' σ ρ o D (s.ext x) e (k.mono x.st)
theorem ds_break : DS X (.Break pos) sBreak := ⟨_, ps_break, fun B1 B H1 H σ ρ o D s e k => by cases e; exact k σ H1 H (.refl _) s⟩
theorem ds_cont : DS X (.Continue pos) sCont := ⟨_, ps_continue, fun B1 B H1 H σ ρ o D s e k => by cases e; exact k σ H1 H (.refl _) s⟩
theorem ds_pass : DS X (.Pass pos) sNil := ⟨_, ps_pass, fun B1 B H1 H σ ρ o D s e k => by cases e; exact k σ H1 H (.refl _) s⟩

/-! ### targets -/
theorem dg_name (i : Nat) {x : Str} (hN : X.N.Nodup) (hi : X.N[i]? = some x := by rfl) (hx : Loc X.env.scope x := by first | exact Or.inl rfl | exact Or.inr rfl) (hf : X.fn x = true ∨ X.env.scope.names.lookup x = some .local := by first | exact .inl rfl | exact .inr rfl) : DG X (.Name x pos) (gN i) :=
  ⟨_, pg_name hN hi hx hf, fun B1 B H1 H σ ρ ρ' v d Q s dv e k => by cases e; exact k _ H1 H (.refl _) (s.set i dv)⟩
theorem dgs_nil : DGs X [] gNilD := by
  refine ⟨_, pgs_nil, fun B1 B H1 H σ ρ ρ' vs ds Q s dv e k => ?_⟩
  cases dv with
  | nil => cases e; exact ⟨rfl, k σ H1 H (.refl _) s⟩
  | cons _ _ => cases e
theorem dgs_cons {gd : PyData → En → Option En} {gr : List PyData → En → Option En} (h1 : DG X e gd) (h2 : DGs X es gr) (hs : (assignEach (e :: es) X.env).map (·.2) = assign e X.env :: (assignEach es X.env).map (·.2) := by rfl) : DGs X (e :: es) (gConsD gd gr) := by
  obtain ⟨t, p, q⟩ := h1
  obtain ⟨u, p', q'⟩ := h2
  refine ⟨_, pgs_cons p p' hs, fun B1 B H1 H σ ρ ρ' vs ds Q s dv e k => ?_⟩
  cases dv with
  | nil => cases e
  | cons d1 d2 =>
    obtain ⟨ρ1, e1, e⟩ := bind_some e
    refine ⟨_, _, rfl, q B1 B H1 H σ ρ ρ1 _ _ _ s d1 e1 fun σ1 H1' H' sm s1 => ?_⟩
    exact q' B1 B H1' H' σ1 ρ1 ρ' _ _ Q s1 (DenL.mono sm _ _ d2) e fun σ2 H2' H2 sm2 s2 => k σ2 H2' H2 (sm.trans sm2) s2
theorem dg_tup {k : Nat} {n : Nat} {gr : List PyData → En → Option En} (hc : X.calm = true) (h : DGs X es gr) (hn : (assignEach es X.env).length = n := by rfl) (hst : (assignEach es X.env).findIdx? (·.1) = none := by rfl) : DG X (.Tuple es k pos) (gT n gr) := by
  obtain ⟨t, p, q⟩ := h
  refine ⟨_, pg_tup hc p hn hst, fun B1 B H1 H σ ρ ρ' v d Q s dv e k => ?_⟩
  cases d with
  | tuple ds =>
    cases dv with
    | tup hq hl dl =>
      have e : (if ds.length = n then gr ds ρ else none) = some ρ' := e
      split at e
      · rename_i hln
        exact ⟨_, _, rfl, sqT_mono s.sok.sub hq, by rw [dl.length]; exact hln, q B1 B H1 H σ ρ ρ' _ ds Q s dl e k⟩
      · cases e
  | _ => cases e
/-- the thing in a slot -/
theorem Sok.ml {K : PySem.W.Frag} {H1 H : Hp} {σ : L2.St} {ρ : En} {i : Nat} {ds : List PyData} (s : Sok K H1 H σ ρ) (e : ρ[i]? = some (some (.ml ds))) : ∃ a vs, σ[i]? = some (some (.ref a)) ∧ H a = some (.lst vs) ∧ H1 a = none ∧ ds.length ≤ sizeLine ∧ DenL K H1 vs ds := by
  obtain ⟨v, e1, a, vs, rfl, h⟩ := s.at_ i _ e
  exact ⟨a, vs, e1, h⟩
theorem ixN_lt {n j : Nat} {k : Int} (h : ixN n k = some j) : j < n := (ixN_seq h).2.1
theorem dg_sub {k : Expr} {fk : En → Option PyData} (i : Nat) {x : Str} {px : Pos} (hk : DE X k fk) (hN : X.N[i]? = some x := by rfl) (hv : Vis X.env.scope x := by first | exact Or.inl rfl | exact Or.inr (Or.inl rfl) | exact Or.inr (Or.inr rfl)) (hd : (x == ("__debug__" : Str)) = false := by decide)
    (hcd : (x == ("__classdict__" : Str)) = false := by decide) (ha : ∀ v, assign (.Subscript (.Name x px) k pos) X.env v = (do
      let ov ← holding [v] (eval (.Name x px) X.env)
      let iv ← holding [v, ov] (eval k X.env)
      standAt pos
      holding [v, ov, iv] (setItem ov iv v)
      release [v, ov, iv] []) := by intro _; rfl) : DG X (.Subscript (.Name x px) k pos) (gSubM i fk) := by
  obtain ⟨t, p, q⟩ := hk
  refine ⟨_, pg_sub (pe_var hN hv hd hcd) p set_list ha, fun B1 B H1 H σ ρ ρ' v d Q s dv e k => ?_⟩
  obtain ⟨kk, ek, e⟩ := bind_some e
  unfold gSubK at e
  split at e
  · rename_i n ds em
    obtain ⟨j, ej, rfl⟩ := map_some e
    obtain ⟨A, vs, eσ, hA, nA, hl, dl⟩ := s.sok.ml em
    refine ⟨_, eσ, ?_⟩
    refine q σ H1 H ρ _ _ s.sok ek fun w H1' H' x dw => ?_
    cases dw
    obtain ⟨nA', hA'⟩ := x.fr A _ hA nA
    have dl' := DenL.mono x.st _ _ dl
    refine ⟨A, vs, n, j, rfl, rfl, hA', by rw [dl.length]; exact ej, ?_⟩
    refine k σ H1' _ x.st ((s.ext x).mutate em trivial eσ nA' (fun b h => by cases h; rfl) ⟨A, vs.set j v, rfl, upd_same, nA', by rw [List.length_set]; exact hl, ?_⟩)
    exact DenL.set (Den.mono x.st _ _ dv) j dl'
  · cases e

/-! ### assignments -/
theorem ds_asg {gd : PyData → En → Option En} (he : DE X e f) (hg : DG X tg gd) (hs : swapsWithSole [tg] e pos.line X.env = pure false := by rfl) (hw : swappedStores [tg] e X.env = pure none := by rfl)
    (h1 : (assignEach [tg] X.env).map (·.2) = [assign tg X.env] := by rfl) : DS X (.Assign [tg] e pos) (sAsg f gd) := by
  obtain ⟨t, p, q⟩ := he
  obtain ⟨u, p', q'⟩ := hg
  refine ⟨_, ps_asg p p' hs hw h1, fun B1 B H1 H σ ρ o D s e k => ?_⟩
  obtain ⟨d, e1, e⟩ := bind_some e
  obtain ⟨ρ', e2, rfl⟩ := map_some e
  refine q σ H1 H ρ d _ s.sok e1 fun v H1' H' x dv => ?_
  exact q' B1 B H1' H' σ ρ ρ' v d _ (s.ext x) dv e2 fun σ' H2' H2 sm s' => k σ' H2' H2 (x.st.trans sm) s'
theorem ds_set (i : Nat) {x : Str} {pos' : Pos} (hN : X.N.Nodup) (he : DE X e f) (hi : X.N[i]? = some x := by rfl) (hx : Loc X.env.scope x := by first | exact Or.inl rfl | exact Or.inr rfl) (hs : swapsWith e (some (.Name x pos')) pos.line X.env = pure false := by rfl) (hf : X.fn x = true ∨ X.env.scope.names.lookup x = some .local := by first | exact .inl rfl | exact .inr rfl) :
    DS X (.Assign [.Name x pos'] e pos) (sAsg f (gN i)) := by
  obtain ⟨t, p, q⟩ := he
  refine ⟨_, ps_set hN hi hx p hs hf, fun B1 B H1 H σ ρ o D s e k => ?_⟩
  obtain ⟨d, e1, e⟩ := bind_some e
  cases e
  exact q σ H1 H ρ d _ s.sok e1 fun v H1' H' x dv => k _ H1' H' x.st ((s.ext x).set i dv)
/-- a new list that the def will change -/
theorem ds_setL (i : Nat) {x : Str} {pos' : Pos} (hN : X.N.Nodup) (he : DL X e fs) (hi : X.N[i]? = some x := by rfl) (hx : Loc X.env.scope x := by first | exact Or.inl rfl | exact Or.inr rfl) (hs : swapsWith e (some (.Name x pos')) pos.line X.env = pure false := by rfl) (hf : X.fn x = true ∨ X.env.scope.names.lookup x = some .local := by first | exact .inl rfl | exact .inr rfl) :
    DS X (.Assign [.Name x pos'] e pos) (sAsgL i fs) := by
  obtain ⟨t, p, q⟩ := he
  refine ⟨_, ps_set hN hi hx p hs hf, fun B1 B H1 H σ ρ o D s e k => ?_⟩
  obtain ⟨ds, e1, rfl⟩ := map_some e
  exact q σ H1 H ρ ds _ s.sok e1 fun a vs H1' H' x n e' n' l dl => k _ H1' H' x.st (s.setM i x (fun b h => by cases h; exact n) ⟨a, vs, rfl, e', n', l, dl⟩)
def sPar (i j : Nat) (f g : En → Option PyData) : En → Option Out := fun ρ => (f ρ).bind fun d => (g ρ).map fun e => .nx ((ρ.set i (some (.im d))).set j (some (.im e)))
/-- a, b = x, y with plain local names -/
theorem ds_par (i j : Nat) {x y : Str} {px py pt : Pos} {kt k2 pt2} (hc : X.calm = true) (hN : X.N.Nodup) (ha : DE X a fa) (hb : DE X b fb) (hi : X.N[i]? = some x := by rfl) (hj : X.N[j]? = some y := by rfl) (hij : i ≠ j := by decide)
    (hx : X.env.scope.names.lookup x = some .local := by rfl) (hy : X.env.scope.names.lookup y = some .local := by rfl) (hse : starEach (a :: [b]) X.env = (false, eval a X.env) :: starEach [b] X.env := by rfl) (hse2 : starEach (b :: []) X.env = (false, eval b X.env) :: starEach [] X.env := by rfl)
    (hw : swappedStores [.Tuple [.Name x px, .Name y py] kt pt] (.Tuple [a, b] k2 pt2) X.env = pure (some [x, y]) := by rfl)
    (hs : swapsWithSole [.Tuple [.Name x px, .Name y py] kt pt] (.Tuple [a, b] k2 pt2) pos.line X.env = pure false := by rfl) :
    DS X (.Assign [.Tuple [.Name x px, .Name y py] kt pt] (.Tuple [a, b] k2 pt2) pos) (sPar i j fa fb) := by
  obtain ⟨ta, pa, qa⟩ := ha
  obtain ⟨tb, pb, qb⟩ := hb
  refine ⟨_, ps_par hc hN hi hj hij hx hy (pa_cons pa (pa_cons pb pa_nil hse2) hse) hw hs, fun B1 B H1 H σ ρ o D s e k => ?_⟩
  obtain ⟨d1, e1, e⟩ := bind_some e
  obtain ⟨d2, e2, rfl⟩ := map_some e
  refine qa σ H1 H ρ d1 _ s.sok e1 fun v H1' H' x1 q1 => qb σ H1' H' ρ d2 _ (s.sok.ext x1) e2 fun w H2' H2 x2 q2 => ⟨v, w, rfl, ?_⟩
  exact k _ H2' H2 (x1.st.trans x2.st) ((((s.ext x1).ext x2).set i (Den.mono x2.st _ _ q1)).set j q2)
theorem ds_augI {op : Operator} {gi : Int → Int → Int} (i : Nat) {x : Str} {pos' : Pos} (hN : X.N.Nodup) (he : DE X e f) (ho : PIp X op (ipI gi)) (hi : X.N[i]? = some x := by rfl) (hx : Loc X.env.scope x := by first | exact Or.inl rfl | exact Or.inr rfl) (hf : X.fn x = true ∨ X.env.scope.names.lookup x = some .local := by first | exact .inl rfl | exact .inr rfl) :
    DS X (.AugAssign (.Name x pos') op e pos) (sAug i gi f) := by
  obtain ⟨t, p, q⟩ := he
  refine ⟨_, ps_aug hN hi hx p ho hf, fun B1 B H1 H σ ρ o D s e k => ?_⟩
  unfold sAug at e
  split at e
  · rename_i n em
    obtain ⟨d, e1, e⟩ := bind_some e
    split at e
    · rename_i m
      cases e
      obtain ⟨v, eσ, dv⟩ := s.sok.at_ i _ em
      cases dv
      refine ⟨_, eσ, q σ H1 H ρ _ _ s.sok e1 fun w H1' H' x dw => ?_⟩
      cases dw
      exact ⟨n, m, rfl, rfl, k _ H1' H' x.st ((s.ext x).set i (.int _))⟩
    · cases e
  · cases e
/-- xs.append(e) -/
theorem ds_app (i : Nat) {x : Str} {px apos cpos : Pos} (he : DE X e f) (hN : X.N[i]? = some x := by rfl) (hv : Vis X.env.scope x := by first | exact Or.inl rfl | exact Or.inr (Or.inl rfl) | exact Or.inr (Or.inr rfl)) (hd : (x == ("__debug__" : Str)) = false := by decide)
    (hcd : (x == ("__classdict__" : Str)) = false := by decide) (hse : starEach (e :: []) X.env = (false, eval e X.env) :: starEach [] X.env := by rfl) (hs : swapsWith (.Call (.Attribute (.Name x px) "append" apos) [e] [] cpos) none pos.line X.env = pure false := by rfl) (pe : ∀ {te : TE}, PE X e te → PE X (.Call (.Attribute (.Name x px) "append" apos) [e] [] cpos) (tBM X.K "list" rAppend (tVar i) (tCons te tNil)) := by exact fun he => pe_bm PySem.F.plainAttrs_list PySem.F.slot_list_append PySem.F.type_list_append mt_append (pv _) (pa_cons he pa_nil)) :
    DS X (.Expr (.Call (.Attribute (.Name x px) "append" apos) [e] [] cpos) pos) (sApp i f) := by
  obtain ⟨t, p, q⟩ := he
  refine ⟨_, ps_expr (pe p) hs, fun B1 B H1 H σ ρ o D s e k => ?_⟩
  obtain ⟨d, e1, e⟩ := bind_some e
  obtain ⟨ρ', e, rfl⟩ := map_some e
  unfold appK at e
  split at e
  · rename_i ds em
    split at e
    · rename_i hlt
      cases e
      obtain ⟨A, vs, eσ, hA, nA, hl, dl⟩ := s.sok.ml em
      refine ⟨_, eσ, .inl ⟨rfl, _, .of hA⟩, ?_⟩
      refine q σ H1 H ρ _ _ s.sok e1 fun v H1' H' x dv => ?_
      obtain ⟨nA', hA'⟩ := x.fr A _ hA nA
      refine ⟨A, vs, v, rfl, rfl, hA', by rw [dl.length]; exact hlt, ?_⟩
      refine k σ H1' _ x.st ((s.ext x).mutate em trivial eσ nA' (fun b h => by cases h; rfl) ⟨A, vs ++ [v], rfl, upd_same, nA', by rw [List.length_append]; exact hlt, ?_⟩)
      exact (DenL.mono x.st _ _ dl).append (.one dv)
    · cases e
  · cases e

/-! ### what is walked -/
def Walks (K : PySem.W.Frag) (J : It) (H1 : Hp) (ds : List PyData) : Prop := ∀ (H1' H' : Hp), Same H1 H1' → Same H1' H' → ∀ i : Nat,
  (∀ d, ds[i]? = some d → J.go i H' ∧ ∀ x H'', J.yld i H' x H'' → ∃ H1'', Ext H1' H' H1'' H'' ∧ Den K H1'' x d) ∧ (ds.length ≤ i → J.stop i H')
def DI (X : Cx) (tg iter : Expr) (f : En → Option (List PyData)) : Prop :=
  ∃ wi, PI X tg iter wi ∧ ∀ (σ : L2.St) (H1 H : Hp) (ρ : En) (ds : List PyData) (R : It → Hp → Prop), Sok X.K H1 H σ ρ → f ρ = some ds → (∀ J H1' H', Ext H1 H H1' H' → ds.length ≤ sizeLine → Walks X.K J H1' ds → R J H') → wi σ H R
def asSeq : PyData → Option (List PyData)
  | .list ds => some ds
  | .tuple ds => some ds
  | _ => none
def iSq (f : En → Option PyData) : En → Option (List PyData) := fun ρ => (f ρ).bind asSeq
theorem pi_seq {l : Expr} {tl : TE} (hl : PE X l tl) : PI X tg l (fun σ H R => tl σ H fun x H1 => ∃ a, x = .ref a ∧ ((∃ xs, SqL X.K H1 a xs ∧ R (Itl X.K a) H1) ∨ ∃ xs, SqT X.K H1 a xs ∧ R (Itt X.K a) H1)) := by
  refine ⟨fun pins s σ H R I h => ?_⟩
  refine thn (hl.run pins s σ H _ I h) fun v s1 ⟨x, H1, I1, r1, q1⟩ => ?_
  obtain ⟨a, e, q⟩ := q1
  subst e
  cases r1
  rcases q with ⟨xs, hq, q⟩ | ⟨xs, hq, q⟩
  · obtain ⟨its, rv, p, hz⟩ := I1.list hq
    refine wpAny_pyIter_list p.isList ?_
    refine ⟨s1.heap.objs.size, [s1.heap.objs.size], _, _, H1, rfl, I1.kept (t' := s1.toks) fun b o e => Heap.get?_push_of_some _ e, turn_list a _, ⟨_, Heap.get?_push_size _ rfl, rfl, rfl⟩, fun b hb => ?_, q⟩
    have e : b = s1.heap.objs.size := by simpa using hb
    subst e
    exact I1.fpOk (Nat.le_refl _) (I1.hok.fresh (Nat.le_refl _))
  · obtain ⟨its, rv, p, hz⟩ := I1.tuple hq
    refine wpAny_pyIter_tuple (show s1.heap.IsTuple a its.toArray from p) ?_
    refine ⟨s1.heap.objs.size, [s1.heap.objs.size], _, _, H1, rfl, I1.kept (t' := s1.toks) fun b o e => Heap.get?_push_of_some _ e, turn_tuple a _, ⟨_, Heap.get?_push_size _ rfl, rfl, rfl⟩, fun b hb => ?_, q⟩
    have e : b = s1.heap.objs.size := by simpa using hb
    subst e
    exact I1.fpOk (Nat.le_refl _) (I1.hok.fresh (Nat.le_refl _))
theorem walks_list {K : PySem.W.Frag} {H1 : Hp} {a : Addr} {xs : List V} {ds : List PyData} (h : SqL K H1 a xs) (dl : DenL K H1 xs ds) : Walks K (Itl K a) H1 ds := fun H1' H' s1 s2 i => by
  refine ⟨fun d e => ?_, fun l => ⟨xs, (s1.trans s2).seq h, by rw [dl.length]; exact l⟩⟩
  obtain ⟨v, e1, dv⟩ := dl.get e
  refine ⟨⟨xs, v, (s1.trans s2).seq h, e1⟩, fun x H'' y => ?_⟩
  obtain ⟨rfl, y⟩ := y
  have e2 := y xs ((s1.trans s2).seq h)
  rw [e1] at e2
  cases e2
  exact ⟨H1', .refl s2, Den.mono s1 _ _ dv⟩
theorem walks_tup {K : PySem.W.Frag} {H1 : Hp} {a : Addr} {xs : List V} {ds : List PyData} (h : SqT K H1 a xs) (dl : DenL K H1 xs ds) : Walks K (Itt K a) H1 ds := fun H1' H' s1 s2 i => by
  refine ⟨fun d e => ?_, fun l => ⟨xs, sqT_mono (s1.trans s2) h, by rw [dl.length]; exact l⟩⟩
  obtain ⟨v, e1, dv⟩ := dl.get e
  refine ⟨⟨xs, v, sqT_mono (s1.trans s2) h, e1⟩, fun x H'' y => ?_⟩
  obtain ⟨rfl, y⟩ := y
  have e2 := y xs (sqT_mono (s1.trans s2) h)
  rw [e1] at e2
  cases e2
  exact ⟨H1', .refl s2, Den.mono s1 _ _ dv⟩
theorem di_seq (h : DE X e f) : DI X tg e (iSq f) := by
  obtain ⟨t, p, q⟩ := h
  refine ⟨_, pi_seq p, fun σ H1 H ρ ds R s e k => ?_⟩
  obtain ⟨d, e1, e⟩ := bind_some e
  refine q σ H1 H ρ d _ s e1 fun v H1' H' x dv => ?_
  cases d with
  | list es =>
    cases e
    cases dv with
    | lst hs hl dl => exact ⟨_, rfl, .inl ⟨_, x.sub.seq hs, k _ H1' H' x hl (walks_list hs dl)⟩⟩
  | tuple es =>
    cases e
    cases dv with
    | tup hs hl dl => exact ⟨_, rfl, .inr ⟨_, sqT_mono x.sub hs, k _ H1' H' x hl (walks_tup hs dl)⟩⟩
  | _ => cases e
def rng (lo : Int) (n : Nat) : List PyData := (List.range n).map fun i => .int (lo + (i : Nat))
theorem rng_len (lo : Int) (n : Nat) : (rng lo n).length = n := by unfold rng; rw [List.length_map, List.length_range]
theorem walks_rng {K : PySem.W.Frag} {H1 : Hp} (lo : Int) (n : Nat) : Walks K (Itr lo n) H1 (rng lo n) := fun H1' H' s1 s2 i => by
  refine ⟨fun d e => ?_, fun l => by rw [rng_len] at l; exact l⟩
  have hl : i < n := by
    have := (List.getElem?_eq_some_iff.mp e).1
    rwa [rng_len] at this
  unfold rng at e
  rw [List.getElem?_map, List.getElem?_range hl] at e
  cases e
  refine ⟨hl, fun x H'' y => ?_⟩
  obtain ⟨rfl, rfl⟩ := y
  exact ⟨H1', .refl s2, .int _⟩
def rg1 (ds : List PyData) : Option (List PyData) := match ds with
  | [.int j] => if j.natAbs ≤ 16777216 then some (rng 0 j.toNat) else none
  | _ => none
def rg2 (ds : List PyData) : Option (List PyData) := match ds with
  | [.int i, .int j] => if i.natAbs ≤ 4194304 ∧ j.natAbs ≤ 4194304 then some (rng i (j - i).toNat) else none
  | _ => none
theorem di_range1 (ha : DA X [a] fs) (hg : Gl X "range") (hm : X.mg "range" = none) (hs : starEach [a] X.env = [(false, eval a X.env)] := by rfl) : DI X tg (.Call (.Name "range" p) [a] [] pos) (eNL rg1 fs) := by
  obtain ⟨t, pt, q⟩ := ha
  refine ⟨_, pi_range1 hg hm pt hs, fun σ H1 H ρ ds R s e k => ?_⟩
  obtain ⟨es, e1, e⟩ := bind_some e
  refine q σ H1 H ρ es _ s e1 fun vs H1' H' x dv => ?_
  unfold rg1 at e
  split at e
  · rename_i j
    split at e
    · rename_i hj
      cases e
      cases dv with
      | cons d1 d2 =>
        cases d1
        cases d2
        refine ⟨j, rfl, by omega, by omega, k _ H1' H' x (by rw [rng_len, sizeLine_eq]; omega) (walks_rng 0 _)⟩
    · cases e
  · cases e
theorem di_range2 (ha : DA X [a, b] fs) (hg : Gl X "range") (hm : X.mg "range" = none) (hs : starEach [a, b] X.env = [(false, eval a X.env), (false, eval b X.env)] := by rfl) (hs2 : starEach [b] X.env = [(false, eval b X.env)] := by rfl) : DI X tg (.Call (.Name "range" p) [a, b] [] pos) (eNL rg2 fs) := by
  obtain ⟨t, pt, q⟩ := ha
  refine ⟨_, pi_range2 hg hm pt hs hs2, fun σ H1 H ρ ds R s e k => ?_⟩
  obtain ⟨es, e1, e⟩ := bind_some e
  refine q σ H1 H ρ es _ s e1 fun vs H1' H' x dv => ?_
  unfold rg2 at e
  split at e
  · rename_i i j
    split at e
    · rename_i hj
      cases e
      cases dv with
      | cons d1 d2 =>
        cases d1
        cases d2 with
        | cons d3 d4 =>
          cases d3
          cases d4
          refine ⟨i, j, rfl, ⟨by omega, by omega, by omega, by omega⟩, k _ H1' H' x (by rw [rng_len, sizeLine_eq]; omega) (walks_rng i _)⟩
    · cases e
  · cases e

/-! ### loops -/
theorem ds_for {iter : Expr} {body : List Stmt} {fi : En → Option (List PyData)} {gd : PyData → En → Option En} (hp : PassesOwn (model X.prog X.w) X.A X.env X.xe) (hc : X.calm = true) (hi : DI X tg iter fi) (hg : DG X tg gd) (hb : DSs X body g)
    (hs : ∀ x, foldedSetIterable iter X.env x = pure x := by intro _; rfl) : DS X (.For tg iter body [] pos) (sFor fi gd g) := by
  obtain ⟨wi, pi, qi⟩ := hi
  obtain ⟨tg', pg, qg⟩ := hg
  obtain ⟨tb, pb, qb⟩ := hb
  refine ⟨_, ps_for hp hc pi pg pb hs, fun B1 B H1 H σ ρ o D s e k => ?_⟩
  obtain ⟨ds, e1, e⟩ := bind_some e
  refine qi σ H1 H ρ ds _ s.sok e1 fun J Hi H' x hl wk => ?_
  refine ⟨fun i m σ H => m = ds.length - i ∧ ∃ H1' ρ', Same Hi H1' ∧ Sst X.K B1 B H1' H σ ρ' ∧ forD gd g (ds.drop i) ρ' = some o, ⟨_, rfl, Hi, ρ, .refl _, s.ext x, by rw [List.drop_zero]; exact e⟩, ?_⟩
  rintro i m σ H ⟨rfl, H1', ρ', sm, s', e'⟩
  obtain ⟨w1, w2⟩ := wk H1' H sm s'.sok.sub i
  by_cases hi : i < ds.length
  · right
    rw [List.drop_eq_getElem_cons hi] at e'
    obtain ⟨go, yl⟩ := w1 ds[i] (List.getElem?_eq_getElem hi)
    obtain ⟨ρ1, e2, e'⟩ := bind_some e'
    obtain ⟨o1, e3, e'⟩ := bind_some e'
    refine ⟨go, fun σ2 H2 => ∃ H1'' ρ'', Same Hi H1'' ∧ Sst X.K B1 B H1'' H2 σ2 ρ'' ∧ forD gd g (ds.drop (i + 1)) ρ'' = some o, fun σ2 H2 ⟨H1'', ρ'', a1, a2, a3⟩ => ⟨ds.length - (i + 1), by omega, rfl, H1'', ρ'', a1, a2, a3⟩, fun v H2 y => ?_⟩
    obtain ⟨H1'', x2, dv⟩ := yl v H2 y
    refine qg B1 B H1'' H2 σ ρ' ρ1 v _ _ (s'.ext x2) dv e2 fun σ3 H13 H3 sm3 s3 => ?_
    refine qb B1 B H13 H3 σ3 ρ1 o1 _ s3 e3 ?_
    have sm4 : Same Hi H13 := (sm.trans x2.st).trans sm3
    cases o1 with
    | nx ρ2 => exact fun σ4 H14 H4 sm5 s4 => ⟨H14, ρ2, sm4.trans sm5, s4, e'⟩
    | ct ρ2 => exact fun σ4 H14 H4 sm5 s4 => ⟨H14, ρ2, sm4.trans sm5, s4, e'⟩
    | bk ρ2 =>
      cases e'
      exact fun σ4 H14 H4 sm5 s4 => k σ4 H14 H4 ((x.st.trans sm4).trans sm5) s4
    | rt d =>
      cases e'
      exact k
  · left
    rw [List.drop_eq_nil_of_le (by omega)] at e'
    cases e'
    exact ⟨w2 (by omega), k σ H1' H (x.st.trans sm) s'⟩
theorem ds_while {body : List Stmt} (n : Nat) (hp : PassesOwn (model X.prog X.w) X.A X.env X.xe) (hc : DT X c tf) (hb : DSs X body g) : DS X (.While c body [] pos) (whileD tf g n) := by
  obtain ⟨tc, pc, qc⟩ := hc
  obtain ⟨tb, pb, qb⟩ := hb
  refine ⟨_, ps_while hp pc pb, fun B1 B H1 H σ ρ o D s e k => ?_⟩
  refine ⟨fun m σ H => ∃ H1' ρ', Same H1 H1' ∧ Sst X.K B1 B H1' H σ ρ' ∧ whileD tf g m ρ' = some o, ⟨n, H1, ρ, .refl _, s, e⟩, ?_⟩
  rintro m σ H ⟨H1', ρ', sm, s', e'⟩
  cases m with
  | zero => cases e'
  | succ m =>
    obtain ⟨b, e1, e'⟩ := bind_some e'
    refine qc σ H1' H ρ' b _ s'.sok e1 fun H1'' H' x => ?_
    cases b with
    | false =>
      cases e'
      exact k σ H1'' H' (sm.trans x.st) (s'.ext x)
    | true =>
      obtain ⟨o1, e3, e'⟩ := bind_some e'
      refine ⟨fun σ2 H2 => ∃ H1' ρ', Same H1 H1' ∧ Sst X.K B1 B H1' H2 σ2 ρ' ∧ whileD tf g m ρ' = some o, fun σ2 H2 z => ⟨m, Nat.lt_succ_self _, z⟩, ?_⟩
      refine qb B1 B H1'' H' σ ρ' o1 _ (s'.ext x) e3 ?_
      have sm4 : Same H1 H1'' := sm.trans x.st
      cases o1 with
      | nx ρ2 => exact fun σ4 H14 H4 sm5 s4 => ⟨H14, ρ2, sm4.trans sm5, s4, e'⟩
      | ct ρ2 => exact fun σ4 H14 H4 sm5 s4 => ⟨H14, ρ2, sm4.trans sm5, s4, e'⟩
      | bk ρ2 =>
        cases e'
        exact fun σ4 H14 H4 sm5 s4 => k σ4 H14 H4 (sm4.trans sm5) s4
      | rt d =>
        cases e'
        exact k
end
end Dv

namespace Dv
open PySem PySem.Spec PyProof.Rows L2

/-! ### several slots at once -/
def setAll {α : Type} : List (Option α) → List Nat → List α → List (Option α)
  | σ, i :: is, v :: vs => setAll (σ.set i (some v)) is vs
  | σ, _, _ => σ
def setAllW (ρ : En) (is : List Nat) (ds : List PyData) : En := setAll ρ is (ds.map W.im)
theorem Sok.setAll {K : PySem.W.Frag} {H1 H : Hp} : ∀ {is : List Nat} {vs : List V} {ds : List PyData} {σ : L2.St} {ρ : En}, Sok K H1 H σ ρ → DenL K H1 vs ds → Sok K H1 H (Dv.setAll σ is vs) (setAllW ρ is ds)
  | [], _, _, _, _, s, _ => by unfold setAllW Dv.setAll; exact s
  | i :: is, _, [], _, _, s, h => by cases h; exact s
  | i :: is, _, d :: ds, σ, ρ, s, h => by
    cases h with
    | @cons v vs _ _ a b => exact Sok.setAll (σ := σ.set i (some v)) (ρ := ρ.set i (some (.im d))) (Sok.set s i a) b
def wipeE (ρ : En) : List Nat → En
  | [] => ρ
  | v :: vs => (wipeE ρ vs).set v none
theorem Sok.setN {K : PySem.W.Frag} {H1 H : Hp} {σ : L2.St} {ρ : En} (s : Sok K H1 H σ ρ) (i : Nat) : Sok K H1 H (σ.set i none) (ρ.set i none) := by
  have cs : ∀ {j : Nat} {u}, (ρ.set i none)[j]? = some (some u) → i ≠ j ∧ ρ[j]? = some (some u) := fun {j u} e => by
    by_cases hj : i = j
    · subst hj
      have hl : i < ρ.length := by
        have := (List.getElem?_eq_some_iff.mp e).1
        rwa [List.length_set] at this
      rw [List.getElem?_set_self hl] at e
      cases e
    · rw [List.getElem?_set_ne hj] at e
      exact ⟨hj, e⟩
  refine ⟨s.sub, by rw [List.length_set, List.length_set]; exact s.len, fun j u e => ?_, fun j l u u' v1 v2 b e1 e2 f1 f2 m1 m2 => ?_⟩
  · obtain ⟨hj, e⟩ := cs e
    rw [List.getElem?_set_ne hj]
    exact s.at_ j u e
  · obtain ⟨hj, e1⟩ := cs e1
    obtain ⟨hk, e2⟩ := cs e2
    rw [List.getElem?_set_ne hj] at f1
    rw [List.getElem?_set_ne hk] at f2
    exact s.inj j l u u' v1 v2 b e1 e2 f1 f2 m1 m2
theorem Sok.wipe {K : PySem.W.Frag} {H1 H : Hp} {σ : L2.St} {ρ : En} (s : Sok K H1 H σ ρ) : ∀ vs : List Nat, Sok K H1 H (wipe σ vs) (wipeE ρ vs)
  | [] => s
  | v :: vs => (Sok.wipe s vs).setN v
theorem wipe_in {σ : L2.St} {i : Nat} : ∀ {vs : List Nat}, i ∈ vs → (wipe σ vs)[i]? = if i < σ.length then some none else none
  | [], h => by simp at h
  | v :: vs, h => by
    unfold wipe
    by_cases hv : v = i
    · subst hv
      by_cases hl : v < σ.length
      · rw [List.getElem?_set_self (by rw [wipe_length]; exact hl), if_pos hl]
      · rw [if_neg hl, List.getElem?_eq_none (by rw [List.length_set, wipe_length]; omega)]
    · rw [List.getElem?_set_ne hv]
      rcases List.mem_cons.mp h with e | h
      · exact absurd e.symm hv
      · exact wipe_in h
theorem wipe_set {σ : L2.St} {i : Nat} {x : Option V} {vs : List Nat} (h : i ∈ vs) : wipe (σ.set i x) vs = wipe σ vs := by
  refine List.ext_getElem? fun j => ?_
  by_cases hj : j ∈ vs
  · rw [wipe_in hj, wipe_in hj, List.length_set]
  · rw [wipe_out hj, wipe_out hj, List.getElem?_set_ne (fun e => hj (by rw [← e]; exact h))]
theorem wipe_setAll {ow : List Nat} : ∀ {is : List Nat} {vs : List V} {σ : L2.St}, (∀ i ∈ is, i ∈ ow) → wipe (Dv.setAll σ is vs) ow = wipe σ ow
  | [], _, _, _ => by unfold Dv.setAll; rfl
  | i :: is, [], _, _ => rfl
  | i :: is, v :: vs, σ, h => by
    show wipe (Dv.setAll (σ.set i (some v)) is vs) ow = _
    rw [wipe_setAll fun j hj => h j (List.mem_cons_of_mem _ hj), wipe_set (h i List.mem_cons_self)]
theorem wipe_wipe {σ : L2.St} (vs : List Nat) : wipe (wipe σ vs) vs = wipe σ vs := by
  refine List.ext_getElem? fun j => ?_
  by_cases hj : j ∈ vs
  · rw [wipe_in hj, wipe_in hj, wipe_length]
  · rw [wipe_out hj, wipe_out hj]

/-! ### a comprehension's target, tests -/
def DGc (X : Cx) (tg : Expr) (is : List Nat) (spl : PyData → Option (List PyData)) : Prop :=
  ∃ t, PG X tg t ∧ ∀ (H1 H : Hp) (σ : L2.St) (v : V) (d : PyData) (ds : List PyData) (Q : L2.St → Hp → Prop), Same H1 H → Den X.K H1 v d → spl d = some ds → (∀ vs, DenL X.K H1 vs ds → Q (setAll σ is vs) H) → t v σ H Q
def DGcs (X : Cx) (tgs : List Expr) (is : List Nat) : Prop :=
  ∃ t, PGs X tgs t ∧ ∀ (H1 H : Hp) (σ : L2.St) (vs : List V) (ds : List PyData) (Q : L2.St → Hp → Prop), Same H1 H → DenL X.K H1 vs ds → ds.length = is.length → Q (setAll σ is vs) H → t vs σ H Q
def splN (d : PyData) : Option (List PyData) := some [d]
def splT (n : Nat) (d : PyData) : Option (List PyData) := match d with
  | .tuple ds => if ds.length = n then some ds else none
  | _ => none
def DTs (X : Cx) (ifs : List Expr) (f : En → Option Bool) : Prop :=
  ∃ t, PTs X ifs t ∧ ∀ (σ : L2.St) (H1 H : Hp) (ρ : En) (b : Bool) (Q : Bool → Hp → Prop), Sok X.K H1 H σ ρ → f ρ = some b → (∀ H1' H', Ext H1 H H1' H' → Q b H') → t σ H Q
def tYesD : En → Option Bool := fun _ => some true
def lcD (spl : PyData → Option (List PyData)) (is : List Nat) (ft : En → Option Bool) (fe : En → Option PyData) (ρ : En) : List PyData → Option (List PyData)
  | [] => some []
  | d :: ds => (spl d).bind fun xs => (ft (setAllW ρ is xs)).bind fun b => if b = true then (fe (setAllW ρ is xs)).bind fun y => (lcD spl is ft fe ρ ds).map fun r => y :: r else lcD spl is ft fe ρ ds
def eLc (fi : En → Option (List PyData)) (spl : PyData → Option (List PyData)) (is own : List Nat) (ft : En → Option Bool) (fe : En → Option PyData) : En → Option (List PyData) := fun ρ => (fi ρ).bind fun ds => lcD spl is ft fe (wipeE ρ own) ds

section
variable {X : Cx} {a b c e : Expr} {es : List Expr} {fa fb fc f : En → Option PyData} {fs : En → Option (List PyData)} {pos p : Pos} {x : Str} {tg : Expr} {tf : En → Option Bool}
theorem dgc_name (i : Nat) {x : Str} (hN : X.N.Nodup) (hi : X.N[i]? = some x := by rfl) (hx : Loc X.env.scope x := by first | exact Or.inl rfl | exact Or.inr rfl) (hf : X.fn x = true ∨ X.env.scope.names.lookup x = some .local := by first | exact .inl rfl | exact .inr rfl) : DGc X (.Name x pos) [i] splN :=
  ⟨_, pg_name hN hi hx hf, fun H1 H σ v d ds Q s dv e k => by cases e; exact k [v] (.one dv)⟩
theorem dgcs_nil : DGcs X [] [] := by
  refine ⟨_, pgs_nil, fun H1 H σ vs ds Q s dv e k => ?_⟩
  have : ds = [] := List.eq_nil_of_length_eq_zero e
  subst this
  cases dv
  exact ⟨rfl, k⟩
theorem dgcs_cons (i : Nat) {is : List Nat} {x : Str} (hN : X.N.Nodup) (h2 : DGcs X es is) (hi : X.N[i]? = some x := by rfl) (hx : Loc X.env.scope x := by first | exact Or.inl rfl | exact Or.inr rfl) (hf : X.fn x = true ∨ X.env.scope.names.lookup x = some .local := by first | exact .inl rfl | exact .inr rfl)
    (hs : (assignEach (.Name x pos :: es) X.env).map (·.2) = assign (.Name x pos) X.env :: (assignEach es X.env).map (·.2) := by rfl) : DGcs X (.Name x pos :: es) (i :: is) := by
  obtain ⟨t, pt, q⟩ := h2
  refine ⟨_, pgs_cons (pg_name hN hi hx hf) pt hs, fun H1 H σ vs ds Q s dv e k => ?_⟩
  cases dv with
  | nil => cases e
  | cons d1 d2 => exact ⟨_, _, rfl, q H1 H _ _ _ Q s d2 (Nat.succ.inj e) k⟩
theorem dgc_tup {k n : Nat} {is : List Nat} (hc : X.calm = true) (h : DGcs X es is) (hl : is.length = n := by rfl) (hn : (assignEach es X.env).length = n := by rfl) (hst : (assignEach es X.env).findIdx? (·.1) = none := by rfl) : DGc X (.Tuple es k pos) is (splT n) := by
  obtain ⟨t, pt, q⟩ := h
  refine ⟨_, pg_tup hc pt hn hst, fun H1 H σ v d ds Q s dv e k => ?_⟩
  cases d with
  | tuple es =>
    cases dv with
    | tup hq hz dl =>
      have e : (if es.length = n then some es else none) = some ds := e
      split at e
      · cases e
        rename_i hln
        exact ⟨_, _, rfl, sqT_mono s hq, by rw [dl.length]; exact hln, q H1 H σ _ _ Q s dl (hln.trans hl.symm) (k _ dl)⟩
      · cases e
  | _ => cases e
theorem dts_nil : DTs X [] tYesD := ⟨_, pts_nil, fun σ H1 H ρ b Q s e k => by cases e; exact k H1 H (.refl s.sub)⟩
theorem dts_one (h : DT X e tf) : DTs X [e] tf := let ⟨t, p, q⟩ := h; ⟨_, pts_one p, q⟩
def rdTs (K : PySem.W.Frag) (f : En → Option Bool) : TT := fun σ H Q => ∃ (H1 : Hp) (ρ : En) (d : Bool), Sok K H1 H σ ρ ∧ f ρ = some d ∧ ∀ H1' H', Ext H1 H H1' H' → Q d H'
theorem DTs.pt {es : List Expr} {f : En → Option Bool} (h : DTs X es f) : PTs X es (rdTs X.K f) := by
  obtain ⟨t, p, q⟩ := h
  exact ⟨fun pins s σ H Q I ⟨H1, ρ, d, sk, hf, k⟩ => p.run pins s σ H Q I (q σ H1 H ρ d Q sk hf k)⟩
def rdG (K : PySem.W.Frag) (is : List Nat) (spl : PyData → Option (List PyData)) : TG := fun v σ H Q => ∃ (H1 : Hp) (d : PyData) (ds : List PyData), Same H1 H ∧ Den K H1 v d ∧ spl d = some ds ∧ ∀ vs, DenL K H1 vs ds → Q (setAll σ is vs) H
theorem DGc.pg {is : List Nat} {spl : PyData → Option (List PyData)} (h : DGc X tg is spl) : PG X tg (rdG X.K is spl) := by
  obtain ⟨t, p, q⟩ := h
  exact ⟨fun pins s σ H v u Q I r ⟨H1, d, ds, sm, dv, e, k⟩ => p.run pins s σ H v u Q I r (q H1 H σ v d ds Q sm dv e k)⟩

/-- a comprehension's reading -/
theorem lc_read {K : PySem.W.Frag} {wi : TI} {fi : En → Option (List PyData)} {spl : PyData → Option (List PyData)} {is own : List Nat} {ft : En → Option Bool} {fe : En → Option PyData}
    (qi : ∀ (σ : L2.St) (H1 H : Hp) (ρ : En) (ds : List PyData) (R : It → Hp → Prop), Sok K H1 H σ ρ → fi ρ = some ds → (∀ J H1' H', Ext H1 H H1' H' → ds.length ≤ sizeLine → Walks K J H1' ds → R J H') → wi σ H R)
    (hown : ∀ i ∈ is, i ∈ own) {σ : L2.St} {H1 H : Hp} {ρ : En} {rs : List PyData} {Q : VK} (s : Sok K H1 H σ ρ) (e : eLc fi spl is own ft fe ρ = some rs)
    (k : ∀ a vs H1' H', Ext H1 H H1' H' → H a = none → H' a = some (.lst vs) → H1' a = none → rs.length ≤ sizeLine → DenL K H1' vs rs → Q (.ref a) H') : tLc wi (rdG K is spl) (rdTs K ft) (rdE K fe) own σ H Q := by
  obtain ⟨ds, e1, e⟩ := bind_some e
  refine qi σ H1 H ρ ds _ s e1 fun J Hi H' x hl wk => fun D nD => ?_
  have nD0 : H D = none := (x.same s.sub).free nD
  refine ⟨fun i m H2 => m = ds.length - i ∧ ∃ H12 acc accd rest, H2 D = some (.lst acc) ∧ H12 D = none ∧ Same Hi H12 ∧ Ext H1 H H12 H2 ∧ DenL K H12 acc accd ∧ accd.length ≤ i ∧ i ≤ ds.length ∧ lcD spl is ft fe (wipeE ρ own) (ds.drop i) = some rest ∧ accd ++ rest = rs, ⟨_, rfl, Hi, [], [], rs, upd_same, x.sub.free nD, .refl _, x.trans (.newMut x.sub nD), .nil, Nat.le_refl _, Nat.zero_le _, by rw [List.drop_zero]; exact e, rfl⟩, ?_⟩
  rintro i m H2 ⟨rfl, H12, acc, accd, rest, hD, hD1, sm, x2, dl, hli, hile, e2, e3⟩
  have s2 : Sok K H12 H2 σ ρ := s.ext x2
  obtain ⟨w1, w2⟩ := wk H12 H2 sm x2.sub i
  by_cases hi : i < ds.length
  · right
    rw [List.drop_eq_getElem_cons hi] at e2
    obtain ⟨go, yl⟩ := w1 ds[i] (List.getElem?_eq_getElem hi)
    obtain ⟨xs, e4, e2⟩ := bind_some e2
    obtain ⟨bb, e5, e2⟩ := bind_some e2
    refine ⟨go, fun H3 => ∃ H13 acc accd rest, H3 D = some (.lst acc) ∧ H13 D = none ∧ Same Hi H13 ∧ Ext H1 H H13 H3 ∧ DenL K H13 acc accd ∧ accd.length ≤ i + 1 ∧ i + 1 ≤ ds.length ∧ lcD spl is ft fe (wipeE ρ own) (ds.drop (i + 1)) = some rest ∧ accd ++ rest = rs, fun H3 z => ⟨ds.length - (i + 1), by omega, rfl, z⟩, fun v H3 y => ?_⟩
    obtain ⟨H13, x3, dv⟩ := yl v H3 y
    refine ⟨H13, ds[i], xs, x3.sub, dv, e4, fun vs dvs => ⟨by rw [wipe_setAll hown, wipe_wipe], ?_⟩⟩
    have s3 : Sok K H13 H3 (setAll (wipe σ own) is vs) (setAllW (wipeE ρ own) is xs) := ((s2.ext x3).wipe own).setAll dvs
    obtain ⟨n3, h3⟩ := x3.fr D _ hD hD1
    refine ⟨H13, _, bb, s3, e5, fun H14 H4 x4 => ?_⟩
    obtain ⟨n4, h4⟩ := x4.fr D _ h3 n3
    cases bb with
    | false =>
      rw [if_neg Bool.false_ne_true]
      exact ⟨H14, acc, accd, rest, h4, n4, (sm.trans x3.st).trans x4.st, (x2.trans x3).trans x4, DenL.mono (x3.st.trans x4.st) _ _ dl, Nat.le_succ_of_le hli, hi, e2, e3⟩
    | true =>
      rw [if_pos rfl]
      rw [if_pos rfl] at e2
      obtain ⟨y, e6, e2⟩ := bind_some e2
      obtain ⟨r, e7, rfl⟩ := map_some e2
      refine ⟨H14, _, y, s3.ext x4, e6, fun w H15 H5 x5 dw => ?_⟩
      obtain ⟨n5, h5⟩ := x5.fr D _ h4 n4
      have lacc : acc.length = accd.length := dl.length
      refine ⟨acc, h5, by omega, ?_⟩
      have x6 : Ext H1 H H15 H5 := ((x2.trans x3).trans x4).trans x5
      refine ⟨H15, acc ++ [w], accd ++ [y], r, upd_same, n5, ((sm.trans x3.st).trans x4.st).trans x5.st, ⟨x6.st, fun b o z => ?_, fun b o z z1 => ?_⟩, (DenL.mono ((x3.st.trans x4.st).trans x5.st) _ _ dl).append (.one dw), by rw [List.length_append]; exact Nat.add_le_add_right hli 1, hi, e7, ?_⟩
      · rw [upd_ne (ne_of_none z n5)]; exact x6.sub _ _ z
      · obtain ⟨q1, q2⟩ := x6.fr b o z z1
        rw [upd_ne (ne_of_none z nD0)]
        exact ⟨q1, q2⟩
      · rw [← e3, List.append_assoc]; rfl
  · left
    have hie : i = ds.length := by omega
    rw [List.drop_eq_nil_of_le (by omega)] at e2
    cases e2
    rw [List.append_nil] at e3
    subst e3
    exact ⟨w2 (by omega), k D acc H12 H2 x2 nD0 hD hD1 (by omega) dl⟩

theorem dl_lc {elt iter : Expr} {ifs : List Expr} {scope : Scope} {own : List (Str × Nat)} {fi : En → Option (List PyData)} {spl : PyData → Option (List PyData)} {is ow : List Nat} {ft : En → Option Bool} {fe : En → Option PyData} (hc : X.calm = true) (hN : X.N.Nodup) (hi : DI X tg iter fi) (ok : BlkOk X.N X.env.scope scope own)
    (hg : ∀ (s : Shared) (H : Hp) (C : Addr) (cl : List (Str × Addr)) (fp : List Addr), DGc (X.blk s H scope (compEnvC scope cl C X.env) fp) tg is spl) (ht : ∀ (s : Shared) (H : Hp) (C : Addr) (cl : List (Str × Addr)) (fp : List Addr), DTs (X.blk s H scope (compEnvC scope cl C X.env) fp) ifs ft)
    (he : ∀ (s : Shared) (H : Hp) (C : Addr) (cl : List (Str × Addr)) (fp : List Addr), DE (X.blk s H scope (compEnvC scope cl C X.env) fp) elt fe) (how : own.map (·.2) = ow := by rfl) (hown : ∀ i ∈ is, i ∈ ow := by decide) (hs : ∀ x, foldedSetIterable iter X.env x = pure x := by intro _; rfl) :
    DL X (.ListComp elt [⟨tg, iter, ifs, 0⟩] scope pos) (eLc fi spl is ow ft fe) := by
  subst how
  obtain ⟨wi, pi, qi⟩ := hi
  refine ⟨_, pe_lc (g := rdG X.K is spl) (tt := rdTs X.K ft) (te := rdE X.K fe) hc hN pi ok (fun s H C cl fp => (hg s H C cl fp).pg) (fun s H C cl fp => (ht s H C cl fp).pt) (fun s H C cl fp => (he s H C cl fp).pe) hs, fun σ H1 H ρ rs Q s e k => ?_⟩
  exact lc_read qi hown s e k
/-- name = [..] where the model stores within the comprehension -/
theorem ds_setLc (i : Nat) {y : Str} {py spos : Pos} {elt iter : Expr} {ifs : List Expr} {scope : Scope} {own : List (Str × Nat)} {fi : En → Option (List PyData)} {spl : PyData → Option (List PyData)} {is ow : List Nat} {ft : En → Option Bool} {fe : En → Option PyData} (hc : X.calm = true) (hN : X.N.Nodup) (hi : DI X tg iter fi) (ok : BlkOk X.N X.env.scope scope own)
    (hg : ∀ (s : Shared) (H : Hp) (C : Addr) (cl : List (Str × Addr)) (fp : List Addr), DGc (X.blk s H scope (compEnvC scope cl C X.env) fp) tg is spl) (ht : ∀ (s : Shared) (H : Hp) (C : Addr) (cl : List (Str × Addr)) (fp : List Addr), DTs (X.blk s H scope (compEnvC scope cl C X.env) fp) ifs ft)
    (he : ∀ (s : Shared) (H : Hp) (C : Addr) (cl : List (Str × Addr)) (fp : List Addr), DE (X.blk s H scope (compEnvC scope cl C X.env) fp) elt fe) (hsw : swapsWith (.ListComp elt [⟨tg, iter, ifs, 0⟩] scope pos) (some (.Name y py)) spos.line X.env = pure true) (hy : X.N[i]? = some y := by rfl) (hyl : X.env.scope.names.lookup y = some .local := by rfl) (how : own.map (·.2) = ow := by rfl) (hown : ∀ i ∈ is, i ∈ ow := by decide) (hs : ∀ x, foldedSetIterable iter X.env x = pure x := by intro _; rfl) :
    DS X (.Assign [.Name y py] (.ListComp elt [⟨tg, iter, ifs, 0⟩] scope pos) spos) (sAsg (eL (eLc fi spl is ow ft fe)) (gN i)) := by
  subst how
  obtain ⟨wi, pi, qi⟩ := hi
  refine ⟨_, ps_setLc (g := rdG X.K is spl) (tt := rdTs X.K ft) (te := rdE X.K fe) hc hN hy hyl hsw pi ok (fun s H C cl fp => (hg s H C cl fp).pg) (fun s H C cl fp => (ht s H C cl fp).pt) (fun s H C cl fp => (he s H C cl fp).pe) hs, fun B1 B H1 H σ ρ o D s e k => ?_⟩
  obtain ⟨d, e1, e⟩ := bind_some e
  cases e
  obtain ⟨rs, e2, rfl⟩ := map_some e1
  refine lc_read qi hown s.sok e2 fun a vs H1' H' x n e' n' l dl => ?_
  have x2 := x.frz n e' n'
  exact k _ _ H' x2.st ((s.ext x2).set i (.lst (.of upd_same) l (DenL.mono (same_new n') _ _ dl)))
theorem ds_setLcM (i : Nat) {y : Str} {py spos : Pos} {elt iter : Expr} {ifs : List Expr} {scope : Scope} {own : List (Str × Nat)} {fi : En → Option (List PyData)} {spl : PyData → Option (List PyData)} {is ow : List Nat} {ft : En → Option Bool} {fe : En → Option PyData} (hc : X.calm = true) (hN : X.N.Nodup) (hi : DI X tg iter fi) (ok : BlkOk X.N X.env.scope scope own)
    (hg : ∀ (s : Shared) (H : Hp) (C : Addr) (cl : List (Str × Addr)) (fp : List Addr), DGc (X.blk s H scope (compEnvC scope cl C X.env) fp) tg is spl) (ht : ∀ (s : Shared) (H : Hp) (C : Addr) (cl : List (Str × Addr)) (fp : List Addr), DTs (X.blk s H scope (compEnvC scope cl C X.env) fp) ifs ft)
    (he : ∀ (s : Shared) (H : Hp) (C : Addr) (cl : List (Str × Addr)) (fp : List Addr), DE (X.blk s H scope (compEnvC scope cl C X.env) fp) elt fe) (hsw : swapsWith (.ListComp elt [⟨tg, iter, ifs, 0⟩] scope pos) (some (.Name y py)) spos.line X.env = pure true) (hy : X.N[i]? = some y := by rfl) (hyl : X.env.scope.names.lookup y = some .local := by rfl) (how : own.map (·.2) = ow := by rfl) (hown : ∀ i ∈ is, i ∈ ow := by decide) (hs : ∀ x, foldedSetIterable iter X.env x = pure x := by intro _; rfl) :
    DS X (.Assign [.Name y py] (.ListComp elt [⟨tg, iter, ifs, 0⟩] scope pos) spos) (sAsgL i (eLc fi spl is ow ft fe)) := by
  subst how
  obtain ⟨wi, pi, qi⟩ := hi
  refine ⟨_, ps_setLc (g := rdG X.K is spl) (tt := rdTs X.K ft) (te := rdE X.K fe) hc hN hy hyl hsw pi ok (fun s H C cl fp => (hg s H C cl fp).pg) (fun s H C cl fp => (ht s H C cl fp).pt) (fun s H C cl fp => (he s H C cl fp).pe) hs, fun B1 B H1 H σ ρ o D s e k => ?_⟩
  obtain ⟨rs, e1, rfl⟩ := map_some e
  refine lc_read qi hown s.sok e1 fun a vs H1' H' x n e' n' l dl => ?_
  exact k _ H1' H' x.st (s.setM i x (fun b h => by cases h; exact n) ⟨a, vs, rfl, e', n', l, dl⟩)
end

/-! ### defs -/
def outD : Option Out → Option PyData
  | some (.rt d) => some d
  | some (.nx _) => some .none
  | _ => none
def fnD (n m : Nat) (f : En → Option Out) (ds : List PyData) : Option PyData := if ds.length = n then outD (f (ds.map (fun d => some (.im d)) ++ List.replicate m none)) else none
def spD (K : PySem.W.Frag) (n : Nat) (g : List PyData → Option PyData) : Sp := fun vs H Q _ => vs.length = n ∧ ∃ (H1 : Hp) (ds : List PyData) (d : PyData), Same H1 H ∧ DenL K H1 vs ds ∧ g ds = some d ∧ ∀ v H1' H', Ext H1 H H1' H' → Den K H1' v d → Q v H'
structure CalD (P : Program) (w : World) (K : PySem.W.Frag) (mg : Str → Option Value) (base : Heap) (k : Nat) (x : Str) (n : Nat) (g : List PyData → Option PyData) : Prop where
  ex : ∃ (f : Addr) (fd : FuncData) (ps : List Str), FnOk P w K mg base CX0 k f fd ps (spD K n g) ∧ mg x = some (.ref f) ∧ PySem.W.keepIn K (.ref f) = true ∧ Binds K fd ps []
section
variable {P : Program} {w : World} {K : PySem.W.Frag} {mg : Str → Option Value} {base : Heap}
theorem sok_start {H1 H : Hp} {vs : List V} {ds : List PyData} {m : Nat} (s : Same H1 H) (dl : DenL K H1 vs ds) : Sok K H1 H (vs.map some ++ List.replicate m none) (ds.map (fun d => some (.im d)) ++ List.replicate m none) := by
  have cs : ∀ {j : Nat} {u}, (ds.map (fun d => some (W.im d)) ++ List.replicate m none)[j]? = some (some u) → ∃ d, u = .im d ∧ ds[j]? = some d := fun {j u} e => by
    by_cases hj : j < ds.length
    · rw [List.getElem?_append_left (by rw [List.length_map]; exact hj), List.getElem?_map, List.getElem?_eq_getElem hj] at e
      cases e
      exact ⟨_, rfl, List.getElem?_eq_getElem hj⟩
    · rw [List.getElem?_append_right (by rw [List.length_map]; omega)] at e
      have := List.eq_of_mem_replicate (List.mem_of_getElem? e)
      cases this
  refine ⟨s, by rw [List.length_append, List.length_append, List.length_map, List.length_map, List.length_replicate, List.length_replicate, dl.length], fun j u e => ?_, fun j l u u' v1 v2 b e1 e2 f1 f2 m1 m2 => ?_⟩
  · obtain ⟨d, rfl, e3⟩ := cs e
    obtain ⟨v, e2, dv⟩ := dl.get e3
    refine ⟨v, ?_, dv⟩
    rw [List.getElem?_append_left (by rw [List.length_map]; exact (List.getElem?_eq_some_iff.mp e2).1), List.getElem?_map, e2]
    rfl
  · obtain ⟨d, rfl, e⟩ := cs e1
    exact m1.elim
theorem fn_mk {x : Str} {st : Stmt} {f : Addr} {fd : FuncData} {N ps : List Str} {k : Nat} {fb : En → Option Out} (n m : Nat) (F : Fun K x x st f fd) (S : FnScope N ps (defScope st)) (hn : ps.length = n) (hNm : N.length = n + m)
    (body : ∀ (cdv : Value) (A : Around) (outer : List Env) (s : Shared) (H : Hp) (E : XK), Room k (A.deeper (envOfC x (defScope st) s.heap.objs.size f cdv)) → DSs (cxOf CX0 P w K mg base N x (defScope st) f cdv A outer s H E).nox (defBody st) fb) :
    FnOk P w K mg base CX0 (k + 1) f fd ps (spD K n (fnD n m fb)) := by
  subst hn
  refine F.ok S (fun vs H Q E h => h.1) (fun cdv A outer s H vs Q E hr h => ?_)
  obtain ⟨hl, H1, ds, d, sm, dl, e, k⟩ := h
  obtain ⟨t, p, q⟩ := body cdv A outer s H E hr
  unfold fnD at e
  have hds : ds.length = ps.length := by rw [← dl.length]; exact hl
  rw [if_pos hds] at e
  refine ⟨t, p, ?_⟩
  have hst : L2.start N vs = vs.map some ++ List.replicate m none := by
    unfold L2.start
    rw [show N.length - vs.length = m by omega]
  rw [hst]
  cases ho : fb (ds.map (fun d => some (.im d)) ++ List.replicate m none) with
  | none => rw [ho] at e; cases e
  | some o =>
    rw [ho] at e
    have sk : Sok K H1 H (vs.map some ++ List.replicate m none) (ds.map (fun d => some (.im d)) ++ List.replicate m none) := sok_start sm dl
    have s0 : Sst K H1 H H1 H (vs.map some ++ List.replicate m none) (ds.map (fun d => some (.im d)) ++ List.replicate m none) := by
      refine ⟨sk, sm, .refl sm, fun i w v b e _ m => ?_⟩
      have := List.mem_of_getElem? e
      rcases List.mem_append.mp this with z | z
      · obtain ⟨d, _, z⟩ := List.mem_map.mp z
        cases z
        exact m.elim
      · have := List.eq_of_mem_replicate z
        cases this
    refine q H1 H H1 H _ _ o _ s0 ho ?_
    cases o with
    | rt d' =>
      cases e
      exact fun v H1' H' x dv => k v H1' H' x dv
    | nx ρ =>
      cases e
      exact fun σ H1' H' _ s => k .non H1' H' s.fr .non
    | bk ρ => cases e
    | ct ρ => cases e
theorem cal_mk {x : Str} {st : Stmt} {f : Addr} {fd : FuncData} {N ps : List Str} {k : Nat} {fb : En → Option Out} (n m : Nat) (F : Fun K x x st f fd) (hm : mg x = some (.ref f)) (b : Binds K fd ps []) (S : FnScope N ps (defScope st)) (hn : ps.length = n) (hNm : N.length = n + m)
    (body : ∀ (cdv : Value) (A : Around) (outer : List Env) (s : Shared) (H : Hp) (E : XK), Room k (A.deeper (envOfC x (defScope st) s.heap.objs.size f cdv)) → DSs (cxOf CX0 P w K mg base N x (defScope st) f cdv A outer s H E).nox (defBody st) fb) :
    CalD P w K mg base (k + 1) x n (fnD n m fb) :=
  ⟨f, fd, ps, fn_mk n m F S hn hNm body, hm, F.kp, b⟩
/-- nothing is promised -/
theorem cal_zero {x : Str} {st : Stmt} {f : Addr} {fd : FuncData} {ps : List Str} {k n : Nat} (F : Fun K x x st f fd) (hm : mg x = some (.ref f)) (b : Binds K fd ps []) (hn : ps.length = n := by rfl) : CalD P w K mg base k x n (fun _ => none) :=
  ⟨f, fd, ps, ⟨fun vs H Q E h => h.1.trans hn.symm, fun A outer s H args us vs Q E hr e0 hb r h => by
    obtain ⟨_, _, _, _, _, _, e, _⟩ := h
    cases e⟩, hm, F.kp, b⟩
/-- the law's call -/
theorem law_sp {g : List PyData → Option PyData} (hg : ∀ ns : List Int, ns.length ≤ 63 → g [.list (ns.map PyData.int)] = some (.bool true)) {H : Hp} {a : Addr} {ns : List Int} {E : XK} (hS : SqL K H a (ns.map V.int)) (hl : ns.length ≤ 63) : spD K 1 g [.ref a] H (fun v _ => v = .bl true) E :=
  ⟨rfl, H, [.list (ns.map PyData.int)], .bool true, .refl H, .one (.lst hS (by rw [List.length_map, sizeLine_eq]; omega) (DenL.ints ns)), hg ns hl, fun v H1' H' x dv => den_bl dv⟩
end
section
variable {X : Cx} {e : Expr} {es : List Expr} {fs : En → Option (List PyData)} {pos p : Pos} {x : Str} {k j n : Nat} {g : List PyData → Option PyData}
theorem de_fn (c : CalD X.prog X.w X.K X.mg X.base k x n g) (hr : Room j X.A) (hk : k ≤ j) (hg : Gl X x) (ha : DA X (e :: es) fs) (hn : ∀ ρ ds, fs ρ = some ds → ds.length = n) (hdb : (x == ("__debug__" : Str)) = false := by decide)
    (he : starEach (e :: es) X.env = (false, eval e X.env) :: starEach es X.env := by rfl) (hpl : (backTo pos (starEach es X.env)).any (·.1) = false := by rfl) :
    DE X (.Call (.Name x p) (e :: es) [] pos) (eN g fs) := by
  obtain ⟨f, fd, ps, F, hm, kp, b⟩ := c.ex
  obtain ⟨t, pt, q⟩ := ha
  refine ⟨_, pe_call F (hr.mono hk) hg hm kp b .nil pass0 pt hdb he hpl, fun σ H1 H ρ d Q s h k => ?_⟩
  obtain ⟨ds, h1, h⟩ := bind_some h
  refine q σ H1 H ρ ds _ s h1 fun vs H1' H' x1 q1 => ?_
  show spD X.K n g (vs ++ []) H' Q E0
  rw [List.append_nil]
  exact ⟨q1.length.trans (hn _ _ h1), H1', ds, d, x1.sub, q1, h, fun v H2 H2' x2 => k v H2 H2' (x1.trans x2)⟩
end
theorem len_nil : ∀ ρ ds, eNil ρ = some ds → ds.length = 0 := fun ρ ds h => by cases h; rfl
theorem len_cons {f : En → Option PyData} {r : En → Option (List PyData)} {n : Nat} (h : ∀ ρ ds, r ρ = some ds → ds.length = n) : ∀ ρ ds, eCons f r ρ = some ds → ds.length = n + 1 := fun ρ ds e => by
  obtain ⟨d, _, e⟩ := bind_some e
  obtain ⟨es, e1, rfl⟩ := map_some e
  rw [List.length_cons, h _ _ e1]
end Dv

namespace Dv
open PySem PySem.Spec PyProof.Rows L2

/-! ### operators on data -/
def iiD (g : Int → Int → Int) (C : Int → Int → Bool) : PyData → PyData → Option PyData
  | .int i, .int j => if C i j = true then some (.int (g i j)) else none
  | _, _ => none
def addD : PyData → PyData → Option PyData
  | .int i, .int j => some (.int (i + j))
  | .str i, .str j => if i.length + j.length ≤ sizeLine then some (.str (i ++ j)) else none
  | .list a, .list b => if a.length + b.length ≤ sizeLine then some (.list (a ++ b)) else none
  | .tuple a, .tuple b => if a.length + b.length ≤ sizeLine then some (.tuple (a ++ b)) else none
  | _, _ => none
def catD : PyData → PyData → Option (List PyData)
  | .list a, .list b => if a.length + b.length ≤ sizeLine then some (a ++ b) else none
  | _, _ => none
def subD : PyData → PyData → Option PyData
  | .int i, .int j => some (.int (i - j))
  | _, _ => none
def cMul (i j : Int) : Bool := decide (i.natAbs < 18446744073709551616) || decide (j.natAbs < 18446744073709551616)
def modD : PyData → PyData → Option PyData
  | .int i, .int j => if 0 < j then some (.int (i % j)) else none
  | _, _ => none
def fdivD : PyData → PyData → Option PyData
  | .int i, .int j => if 0 < j ∧ j.natAbs < 1073741824 then some (.int (i / j)) else none
  | _, _ => none
def ltD : PyData → PyData → Option PyData
  | .int i, .int j => some (.bool (decide (i < j)))
  | _, _ => none
def leD : PyData → PyData → Option PyData
  | .int i, .int j => some (.bool (decide (i ≤ j)))
  | _, _ => none
def gtD : PyData → PyData → Option PyData
  | .int i, .int j => some (.bool (decide (j < i)))
  | _, _ => none
def geD : PyData → PyData → Option PyData
  | .int i, .int j => some (.bool (decide (j ≤ i)))
  | _, _ => none
def good (d : PyData) : Bool := d.canLay0 && decide (d.depth ≤ 60)
def eqD (d e : PyData) : Option PyData := if good d && good e then some (.bool (PyData.eqv d e)) else none
def neD (d e : PyData) : Option PyData := if good d && good e then some (.bool (!PyData.eqv d e)) else none
def inD (d e : PyData) : Option PyData := if good d && good e then (match e with
  | .list es => some (.bool (es.any fun z => PyData.eqv z d))
  | .tuple es => some (.bool (es.any fun z => PyData.eqv z d))
  | _ => none) else none
def ninD (d e : PyData) : Option PyData := if good d && good e then (match e with
  | .list es => some (.bool (!es.any fun z => PyData.eqv z d))
  | .tuple es => some (.bool (!es.any fun z => PyData.eqv z d))
  | _ => none) else none
def isNonB : PyData → Bool
  | .none => true
  | _ => false
def isN (d e : PyData) : Option PyData := if isNonB e = true then some (.bool (isNonB d)) else none
def notN (d e : PyData) : Option PyData := if isNonB e = true then some (.bool (!isNonB d)) else none
def negD : PyData → Option PyData
  | .int i => some (.int (-i))
  | _ => none

section
variable {X : Cx} {K : PySem.W.Frag}
theorem of_if {α : Type} {c : Prop} [Decidable c] {a b : α} (h : (if c then some a else none) = some b) : c ∧ a = b := by
  split at h
  · rename_i hc; exact ⟨hc, Option.some.inj h⟩
  · cases h

/-- + : one rule for ints, texts, lists, tuples -/
def rAddA (K : PySem.W.Frag) : R2 := fun x y H Q => rI0 (fun i j => .int (i + j)) x y H Q ∨ (∃ i j, x = .str i ∧ y = .str j ∧ i.length + j.length ≤ sizeLine ∧ Q (.str (i ++ j)) H) ∨ rCatA K x y H Q ∨
  (∃ l b xs zs, x = .ref l ∧ y = .ref b ∧ SqL K H l xs ∧ SqL K H b zs ∧ xs.length + zs.length ≤ sizeLine ∧ ∀ p, H p = none → Q (.ref p) (upd H p (.lst (xs ++ zs))))
theorem lst_obj {pins : List (Addr × Obj)} {σ : L2.St} {H : Hp} {s : Shared} {l : Addr} {xs : List V} (I : Inv X pins σ H s) (h : SqL X.K H l xs) : ∃ its : List Value, Vals xs its ∧ ∃ (n : Nat) (dd : Option Addr) (sl : Array (Option Value)), s.heap.get? l = some { cls := .type "list", dict := dd, data := .seq its.toArray n, slots := sl } ∧ xs.length ≤ sizeLine := by
  obtain ⟨its, rv, ⟨⟨c, dd, dt, sl⟩, n, ho, hc, hd, hdt⟩, hz⟩ := I.list h
  simp only at hc hd hdt
  subst hc hd hdt
  exact ⟨its, rv, n, _, sl, ho, hz⟩

theorem op_addA : OpR X (binaryOp .Add) (rAddA X.K) := by
  intro pins s σ H x y v u Q I rx ry h
  rcases h with h | h | h | h
  · exact op_add pins s σ H x y v u Q I rx ry h
  · exact op_add_str pins s σ H x y v u Q I rx ry h
  · exact op_catA pins s σ H x y v u Q I rx ry h
  · obtain ⟨l, b, xs, zs, rfl, rfl, hL, hB, hz, q⟩ := h
    cases rx
    cases ry
    obtain ⟨its, r, n, dd, sl, ho, _⟩ := lst_obj I hL
    obtain ⟨its2, r2, n2, dd2, sl2, ho2, _⟩ := lst_obj I hB
    have hsz : its.length + its2.length ≤ sizeLine := by rw [← r.length, ← r2.length]; exact hz
    have e : its.toArray ++ its2.toArray = (its ++ its2).toArray := by simp
    refine concat_meets ⟨_, ho, rfl⟩ ⟨_, ho2, rfl⟩ noFill_list_add seq_list_add PySem.F.slot_list_add PySem.F.entry_list_add (PySem.F.args_list_add_2 _ _) (list_addW l b its.toArray its2.toArray n n2 dd dd2 sl sl2 (by simpa using hsz)) ⟨ho, ho2, ?_⟩
    rw [e]
    exact ⟨.ref _, _, I.lnew (t' := s.toks) (r.append r2) (by rw [List.length_append]; omega), rfl, q _ I.fresh⟩
theorem v_add : V2 K (rAddA K) addD := by
  intro x y d e c H1 H Q sm dx dy h k
  unfold addD at h
  split at h
  · cases h
    cases dx
    cases dy
    exact .inl ⟨_, _, rfl, rfl, k _ H1 H (.refl sm) (.int _)⟩
  · obtain ⟨hl, rfl⟩ := of_if h
    cases dx
    cases dy
    exact .inr (.inl ⟨_, _, rfl, rfl, hl, k _ H1 H (.refl sm) (.str _)⟩)
  · obtain ⟨hl, rfl⟩ := of_if h
    cases dx with
    | lst h1 l1 q1 =>
      cases dy with
      | lst h2 l2 q2 =>
        refine .inr (.inr (.inr ⟨_, _, _, _, rfl, rfl, sm.seq h1, sm.seq h2, by rw [q1.length, q2.length]; exact hl, fun p n => ?_⟩))
        exact k _ _ _ (.new sm n) (.lst (.of upd_same) (by rw [List.length_append]; exact hl) (DenL.mono (same_new (sm.free n)) _ _ (q1.append q2)))
  · obtain ⟨hl, rfl⟩ := of_if h
    cases dx with
    | tup h1 l1 q1 =>
      cases dy with
      | tup h2 l2 q2 =>
        refine .inr (.inr (.inl ⟨_, _, _, _, rfl, rfl, sqT_mono sm h1, sqT_mono sm h2, by rw [q1.length, q2.length]; exact hl, fun e => ?_, fun e1 e2 => ?_, fun e1 e2 p n => ?_⟩))
        · subst e
          cases q1
          exact k _ H1 H (.refl sm) (.tup h2 l2 q2)
        · subst e2
          cases q2
          refine k _ H1 H (.refl sm) ?_
          rw [List.append_nil]
          exact .tup h1 l1 q1
        · exact k _ _ _ (.new sm n) (.tup (.of upd_same) (by rw [List.length_append]; exact hl) (DenL.mono (same_new (sm.free n)) _ _ (q1.append q2)))
  · cases h
theorem v_cat : V2L K (rAddA K) catD := by
  intro x y d e cs H1 H Q sm dx dy h k
  unfold catD at h
  split at h
  · obtain ⟨hl, rfl⟩ := of_if h
    cases dx with
    | lst h1 l1 q1 =>
      cases dy with
      | lst h2 l2 q2 =>
        refine .inr (.inr (.inr ⟨_, _, _, _, rfl, rfl, sm.seq h1, sm.seq h2, by rw [q1.length, q2.length]; exact hl, fun p n => ?_⟩))
        exact k p _ H1 _ (.newMut sm n) n upd_same (sm.free n) (by rw [List.length_append]; exact hl) (q1.append q2)
  · cases h
theorem v_ii {C : Int → Int → Prop} {g : Int → Int → V} {f : PyData → PyData → Option PyData} (h : ∀ d e c, f d e = some c → ∃ i j, d = .int i ∧ e = .int j ∧ C i j ∧ ∀ (H : Hp), Den K H (g i j) c) : V2 K (rI C g) f := by
  intro x y d e c H1 H Q sm dx dy hf k
  obtain ⟨i, j, rfl, rfl, hc, q⟩ := h d e c hf
  cases dx
  cases dy
  exact ⟨i, j, rfl, rfl, hc, k _ H1 H (.refl sm) (q H1)⟩
theorem v_ii0 {g : Int → Int → V} {f : PyData → PyData → Option PyData} (h : ∀ d e c, f d e = some c → ∃ i j, d = .int i ∧ e = .int j ∧ ∀ (H : Hp), Den K H (g i j) c) : V2 K (rI0 g) f := by
  intro x y d e c H1 H Q sm dx dy hf k
  obtain ⟨i, j, rfl, rfl, q⟩ := h d e c hf
  cases dx
  cases dy
  exact ⟨i, j, rfl, rfl, k _ H1 H (.refl sm) (q H1)⟩
theorem v_sub : V2 K (rI0 fun i j => .int (i - j)) subD := v_ii0 fun d e c h => by
  unfold subD at h
  split at h
  · cases h; exact ⟨_, _, rfl, rfl, fun _ => .int _⟩
  · cases h
theorem v_lt : V2 K (rI0 fun i j => .bl (decide (i < j))) ltD := v_ii0 fun d e c h => by
  unfold ltD at h
  split at h
  · cases h; exact ⟨_, _, rfl, rfl, fun _ => .bl _⟩
  · cases h
theorem v_le : V2 K (rI0 fun i j => .bl (decide (i ≤ j))) leD := v_ii0 fun d e c h => by
  unfold leD at h
  split at h
  · cases h; exact ⟨_, _, rfl, rfl, fun _ => .bl _⟩
  · cases h
theorem v_gt : V2 K (rI0 fun i j => .bl (decide (j < i))) gtD := v_ii0 fun d e c h => by
  unfold gtD at h
  split at h
  · cases h; exact ⟨_, _, rfl, rfl, fun _ => .bl _⟩
  · cases h
theorem v_ge : V2 K (rI0 fun i j => .bl (decide (j ≤ i))) geD := v_ii0 fun d e c h => by
  unfold geD at h
  split at h
  · cases h; exact ⟨_, _, rfl, rfl, fun _ => .bl _⟩
  · cases h
theorem v_mod : V2 K (rI (fun _ j => 0 < j) fun i j => .int (i % j)) modD := v_ii fun d e c h => by
  unfold modD at h
  split at h
  · obtain ⟨hc, rfl⟩ := of_if h; exact ⟨_, _, rfl, rfl, hc, fun _ => .int _⟩
  · cases h
theorem v_fdiv : V2 K (rI CDiv fun i j => .int (i / j)) fdivD := v_ii fun d e c h => by
  unfold fdivD at h
  split at h
  · obtain ⟨hc, rfl⟩ := of_if h; exact ⟨_, _, rfl, rfl, ⟨hc.1, by omega⟩, fun _ => .int _⟩
  · cases h
theorem cMul_ok {i j : Int} (h : cMul i j = true) : CMul i j := by
  unfold cMul at h
  simp only [Bool.or_eq_true, decide_eq_true_eq] at h
  unfold CMul
  omega
/-- * of ints, a tuple times an int -/
def rMulA (K : PySem.W.Frag) : R2 := fun x y H Q => rI CMul (fun i j => .int (i * j)) x y H Q ∨ rRepT K x y H Q
theorem op_mulA : OpR X (binaryOp .Mult) (rMulA X.K) := op_mul.or op_repT
def mulD2 : PyData → PyData → Option PyData
  | .int i, .int j => if cMul i j = true then some (.int (i * j)) else none
  | .tuple a, .int k => if a.isEmpty = false ∧ 2 ≤ k.toNat ∧ k.toNat ≤ 1000 ∧ a.length ≤ 1000 then some (.tuple (List.replicate k.toNat a).flatten) else none
  | _, _ => none
theorem rep_len {α : Type} (a : List α) (n : Nat) : (List.replicate n a).flatten.length = n * a.length := by
  rw [PyProof.Rows.lm_len_rep_flat]
theorem v_mul : V2 K (rMulA K) mulD2 := by
  intro x y d e c H1 H Q sm dx dy h k
  unfold mulD2 at h
  split at h
  · obtain ⟨hc, rfl⟩ := of_if h
    cases dx
    cases dy
    exact .inl ⟨_, _, rfl, rfl, cMul_ok hc, k _ H1 H (.refl sm) (.int _)⟩
  · obtain ⟨⟨h1, h2, h3, h4⟩, rfl⟩ := of_if h
    cases dx with
    | tup hs hl dl =>
      cases dy
      rename_i a kk A xs
      have hx : xs.length = a.length := dl.length
      refine .inr ⟨_, _, _, rfl, rfl, sqT_mono sm hs, fun e => ?_, by omega, by omega, by rw [hx]; exact h4, fun p n => ?_⟩
      · subst e
        cases dl
        cases h1
      · have hlen : (List.replicate kk.toNat a).flatten.length ≤ sizeLine := by
          rw [rep_len, sizeLine_eq]
          have := Nat.mul_le_mul (show kk.toNat ≤ 1000 by omega) h4
          omega
        exact k _ _ _ (.new sm n) (.tup (.of upd_same) hlen (DenL.mono (same_new (sm.free n)) _ _ (dl.rep _)))
  · cases h
theorem v_neg : V1 K (rU fun i => .int (-i)) negD := by
  intro x d c H1 H Q sm dx h k
  unfold negD at h
  split at h
  · cases h
    cases dx
    exact ⟨_, rfl, k _ H1 H (.refl sm) (.int _)⟩
  · cases h
theorem good_lay {d : PyData} (h : good d = true) : d.canLay0 = true := (Bool.and_eq_true_iff.mp h).1
theorem good_depth {d : PyData} (h : good d = true) : d.depth ≤ 60 := of_decide_eq_true (Bool.and_eq_true_iff.mp h).2
theorem good_shaped {d : PyData} (h : good d = true) : SeqAt.shaped d = true := by
  unfold SeqAt.shaped
  rw [good_lay h, Bool.true_and]
  exact decide_eq_true (Nat.le_trans (good_depth h) (by decide))
theorem v_eq : V2 K (rEqD K) eqD := by
  intro x y d e c H1 H Q sm dx dy h k
  obtain ⟨hg, rfl⟩ := of_if h
  rw [Bool.and_eq_true] at hg
  exact ⟨d, e, Den.dp _ _ (Den.mono sm _ _ dx), Den.dp _ _ (Den.mono sm _ _ dy), good_shaped hg.1, good_shaped hg.2, k _ H1 H (.refl sm) (.bl _)⟩
theorem v_ne : V2 K (rNeD K) neD := by
  intro x y d e c H1 H Q sm dx dy h k
  obtain ⟨hg, rfl⟩ := of_if h
  rw [Bool.and_eq_true] at hg
  exact ⟨d, e, Den.dp _ _ (Den.mono sm _ _ dx), Den.dp _ _ (Den.mono sm _ _ dy), good_shaped hg.1, good_shaped hg.2, k _ H1 H (.refl sm) (.bl _)⟩
def rInA (K : PySem.W.Frag) : R2 := fun x y H Q => ∃ d ds, Dp K H x d ∧ (Dp K H y (.list ds) ∨ Dp K H y (.tuple ds)) ∧ good d = true ∧ PyData.canLayAll0 ds = true ∧ PyData.depthAll ds ≤ 60 ∧ Q (.bl (ds.any fun z => PyData.eqv z d)) H
def rNinA (K : PySem.W.Frag) : R2 := fun x y H Q => ∃ d ds, Dp K H x d ∧ (Dp K H y (.list ds) ∨ Dp K H y (.tuple ds)) ∧ good d = true ∧ PyData.canLayAll0 ds = true ∧ PyData.depthAll ds ≤ 60 ∧ Q (.bl (!ds.any fun z => PyData.eqv z d)) H
theorem op_inA (hu : X.A.units + 64 < cLine) : OpR X (compareOp .In) (rInA X.K) := by
  intro pins s σ H x y v u Q I rx ry h
  obtain ⟨d, ds, hd, he, sd, c1, c2, q⟩ := h
  obtain ⟨as, r1⟩ := Dp.reads I d x v hd rx
  have hr : X.A.units + 1 + min (PyData.depthAll ds) d.depth < cLine := by
    have := Nat.min_le_left (PyData.depthAll ds) d.depth
    omega
  rcases he with he | he
  · obtain ⟨bs, r2⟩ := Dp.reads I (.list ds) y u he ry
    exact SeqAt.in_list_reads r2 r1 c1 (good_lay sd) hr ⟨.bl _, H, I, rfl, q⟩
  · obtain ⟨bs, r2⟩ := Dp.reads I (.tuple ds) y u he ry
    exact SeqAt.in_tuple_reads r2 r1 c1 (good_lay sd) hr ⟨.bl _, H, I, rfl, q⟩
theorem op_ninA (hu : X.A.units + 64 < cLine) : OpR X (compareOp .NotIn) (rNinA X.K) := by
  intro pins s σ H x y v u Q I rx ry h
  obtain ⟨d, ds, hd, he, sd, c1, c2, q⟩ := h
  obtain ⟨as, r1⟩ := Dp.reads I d x v hd rx
  have hr : X.A.units + 1 + min (PyData.depthAll ds) d.depth < cLine := by
    have := Nat.min_le_left (PyData.depthAll ds) d.depth
    omega
  rcases he with he | he
  · obtain ⟨bs, r2⟩ := Dp.reads I (.list ds) y u he ry
    exact SeqAt.notIn_list_reads r2 r1 c1 (good_lay sd) hr ⟨.bl _, H, I, rfl, q⟩
  · obtain ⟨bs, r2⟩ := Dp.reads I (.tuple ds) y u he ry
    exact SeqAt.notIn_tuple_reads r2 r1 c1 (good_lay sd) hr ⟨.bl _, H, I, rfl, q⟩
theorem v_in : V2 K (rInA K) inD := by
  intro x y d e c H1 H Q sm dx dy h k
  unfold inD at h
  split at h
  · rename_i hg
    rw [Bool.and_eq_true] at hg
    have dy' := Den.dp _ _ (Den.mono sm _ _ dy)
    have gl := good_lay hg.2
    have gd := good_depth hg.2
    split at h
    · cases h
      exact ⟨d, _, Den.dp _ _ (Den.mono sm _ _ dx), .inl dy', hg.1, by simpa only [PyData.canLay0] using gl, by simp only [PyData.depth] at gd; omega, k _ H1 H (.refl sm) (.bl _)⟩
    · cases h
      exact ⟨d, _, Den.dp _ _ (Den.mono sm _ _ dx), .inr dy', hg.1, by simpa only [PyData.canLay0] using gl, by simp only [PyData.depth] at gd; omega, k _ H1 H (.refl sm) (.bl _)⟩
    · cases h
  · cases h
theorem v_nin : V2 K (rNinA K) ninD := by
  intro x y d e c H1 H Q sm dx dy h k
  unfold ninD at h
  split at h
  · rename_i hg
    rw [Bool.and_eq_true] at hg
    have dy' := Den.dp _ _ (Den.mono sm _ _ dy)
    have gl := good_lay hg.2
    have gd := good_depth hg.2
    split at h
    · cases h
      exact ⟨d, _, Den.dp _ _ (Den.mono sm _ _ dx), .inl dy', hg.1, by simpa only [PyData.canLay0] using gl, by simp only [PyData.depth] at gd; omega, k _ H1 H (.refl sm) (.bl _)⟩
    · cases h
      exact ⟨d, _, Den.dp _ _ (Den.mono sm _ _ dx), .inr dy', hg.1, by simpa only [PyData.canLay0] using gl, by simp only [PyData.depth] at gd; omega, k _ H1 H (.refl sm) (.bl _)⟩
    · cases h
  · cases h
theorem den_non {H : Hp} {v : V} {d : PyData} (h : Den K H v d) : decide (v = .non) = isNonB d := by
  cases h <;> rfl
theorem v_isN : V2 K (fun x y H Q => y = .non ∧ Q (.bl (decide (x = .non))) H) isN := by
  intro x y d e c H1 H Q sm dx dy h k
  obtain ⟨hn, rfl⟩ := of_if h
  cases dy <;> try (cases hn)
  refine ⟨rfl, ?_⟩
  rw [den_non dx]
  exact k _ H1 H (.refl sm) (.bl _)
theorem v_notN : V2 K (fun x y H Q => y = .non ∧ Q (.bl (!decide (x = .non))) H) notN := by
  intro x y d e c H1 H Q sm dx dy h k
  obtain ⟨hn, rfl⟩ := of_if h
  cases dy <;> try (cases hn)
  refine ⟨rfl, ?_⟩
  rw [den_non dx]
  exact k _ H1 H (.refl sm) (.bl _)

/-! ### built-ins on data -/
def lenD : List PyData → Option PyData
  | [.list ds] => some (.int ds.length)
  | [.tuple ds] => some (.int ds.length)
  | [.str z] => if z.length ≤ sizeLine then some (.int z.length) else none
  | _ => none
theorem v_len : VN K (fun xs H Q => ∃ x n, xs = [x] ∧ LenV K x H n ∧ Q (.int n) H) lenD := by
  intro xs ds c H1 H Q sm dl h k
  unfold lenD at h
  split at h
  · cases h
    cases dl with
    | cons d1 d2 =>
      cases d2
      cases d1 with
      | lst hs hl dl => exact ⟨_, _, rfl, .inl ⟨_, sm.seq hs, dl.length.symm⟩, k _ H1 H (.refl sm) (.int _)⟩
  · cases h
    cases dl with
    | cons d1 d2 =>
      cases d2
      cases d1 with
      | tup hs hl dl => exact ⟨_, _, rfl, .inr ⟨_, sqT_mono sm hs, dl.length.symm⟩, k _ H1 H (.refl sm) (.int _)⟩
  · obtain ⟨hz, rfl⟩ := of_if h
    cases dl with
    | cons d1 d2 =>
      cases d2
      cases d1
      exact ⟨_, _, rfl, ⟨hz, rfl⟩, k _ H1 H (.refl sm) (.int _)⟩
  · cases h
def maxD2 : List PyData → Option PyData
  | [.int i, .int j] => some (.int (if j > i then j else i))
  | _ => none
def minD2 : List PyData → Option PyData
  | [.int i, .int j] => some (.int (if j < i then j else i))
  | _ => none
theorem v_max2 : VN K (fun xs H Q => ∃ i j, xs = [.int i, .int j] ∧ Q (.int (if j > i then j else i)) H) maxD2 := by
  intro xs ds c H1 H Q sm dl h k
  unfold maxD2 at h
  split at h
  · cases h
    cases dl with
    | cons d1 d2 =>
      cases d2 with
      | cons d2 d3 =>
        cases d1
        cases d2
        cases d3
        exact ⟨_, _, rfl, k _ H1 H (.refl sm) (.int _)⟩
  · cases h
theorem v_min2 : VN K (fun xs H Q => ∃ i j, xs = [.int i, .int j] ∧ Q (.int (if j < i then j else i)) H) minD2 := by
  intro xs ds c H1 H Q sm dl h k
  unfold minD2 at h
  split at h
  · cases h
    cases dl with
    | cons d1 d2 =>
      cases d2 with
      | cons d2 d3 =>
        cases d1
        cases d2
        cases d3
        exact ⟨_, _, rfl, k _ H1 H (.refl sm) (.int _)⟩
  · cases h
def tupD : List PyData → Option PyData
  | [.list ds] => some (.tuple ds)
  | [.tuple ds] => some (.tuple ds)
  | _ => none
theorem v_tup : VN K (fun xs H Q => ∃ p ys, xs = [.ref p] ∧ ((SqL K H p ys ∧ ∀ l, H l = none → Q (.ref l) (upd H l (.tup ys))) ∨ (SqT K H p ys ∧ Q (.ref p) H))) tupD := by
  intro xs ds c H1 H Q sm dl h k
  unfold tupD at h
  split at h
  · cases h
    cases dl with
    | cons d1 d2 =>
      cases d2
      cases d1 with
      | lst hs hl dl => exact ⟨_, _, rfl, .inl ⟨sm.seq hs, fun p n => k _ _ _ (.new sm n) (.tup (.of upd_same) hl (DenL.mono (same_new (sm.free n)) _ _ dl))⟩⟩
  · cases h
    cases dl with
    | cons d1 d2 =>
      cases d2
      cases d1 with
      | tup hs hl dl => exact ⟨_, _, rfl, .inr ⟨sqT_mono sm hs, k _ H1 H (.refl sm) (.tup hs hl dl)⟩⟩
  · cases h
def listD : List PyData → Option (List PyData)
  | [.list ds] => some ds
  | [.tuple ds] => some ds
  | _ => none
theorem v_list : VNL K (fun xs H Q => ∃ p ys, xs = [.ref p] ∧ (SqL K H p ys ∨ SqT K H p ys) ∧ ∀ l, H l = none → Q (.ref l) (upd H l (.lst ys))) listD := by
  intro xs ds c H1 H Q sm dl h k
  unfold listD at h
  split at h
  · cases h
    cases dl with
    | cons d1 d2 =>
      cases d2
      cases d1 with
      | lst hs hl dl => exact ⟨_, _, rfl, .inl (sm.seq hs), fun p n => k p _ H1 _ (.newMut sm n) n upd_same (sm.free n) hl dl⟩
  · cases h
    cases dl with
    | cons d1 d2 =>
      cases d2
      cases d1 with
      | tup hs hl dl => exact ⟨_, _, rfl, .inr (sqT_mono sm hs), fun p n => k p _ H1 _ (.newMut sm n) n upd_same (sm.free n) hl dl⟩
  · cases h
/-- a list of truths -/
def bools : List PyData → Option (List Bool)
  | [] => some []
  | .bool b :: ds => (bools ds).map fun bs => b :: bs
  | _ :: _ => none
theorem bools_vals {H : Hp} : ∀ {ds : List PyData} {bs : List Bool} {xs : List V}, bools ds = some bs → DenL K H xs ds → xs = bs.map V.bl
  | [], bs, xs, h, dl => by cases h; cases dl; rfl
  | d :: ds, bs, xs, h, dl => by
    cases dl with
    | cons d1 d2 =>
      cases d <;> try (cases h)
      obtain ⟨cs, e, rfl⟩ := map_some h
      cases d1
      rw [bools_vals e d2]
      rfl
def allD : List PyData → Option PyData
  | [.list ds] => (bools ds).map fun bs => .bool (bs.all id)
  | _ => none
theorem v_all : VN K (rAll K) allD := by
  intro xs ds c H1 H Q sm dl h k
  unfold allD at h
  split at h
  · obtain ⟨bs, e, rfl⟩ := map_some h
    cases dl with
    | cons d1 d2 =>
      cases d2
      cases d1 with
      | lst hs hl dl =>
        have e2 := bools_vals e dl
        subst e2
        exact ⟨_, bs, rfl, sm.seq hs, k _ H1 H (.refl sm) (.bl _)⟩
  · cases h
/-- a list or tuple of ints -/
def intsD : List PyData → Option (List Int)
  | [] => some []
  | .int b :: ds => (intsD ds).map fun bs => b :: bs
  | _ :: _ => none
theorem intsD_vals {H : Hp} : ∀ {ds : List PyData} {bs : List Int} {xs : List V}, intsD ds = some bs → DenL K H xs ds → xs = bs.map V.int
  | [], bs, xs, h, dl => by cases h; cases dl; rfl
  | d :: ds, bs, xs, h, dl => by
    cases dl with
    | cons d1 d2 =>
      cases d <;> try (cases h)
      obtain ⟨cs, e, rfl⟩ := map_some h
      cases d1
      rw [intsD_vals e d2]
      rfl
theorem intsD_map : ∀ ns : List Int, intsD (ns.map PyData.int) = some ns
  | [] => rfl
  | n :: ns => by
    show (intsD (ns.map PyData.int)).map (fun bs => n :: bs) = _
    rw [intsD_map ns]
    rfl
def int1D : List PyData → Option PyData
  | [.int i] => some (.int i)
  | [.bool b] => some (.int (if b then 1 else 0))
  | _ => none
theorem v_int1 : VN K (fun xs H Q => (∃ i, xs = [.int i] ∧ Q (.int i) H) ∨ ∃ k, xs = [.bl k] ∧ Q (.int (if k then 1 else 0)) H) int1D := by
  intro xs ds c H1 H Q sm dl h k
  unfold int1D at h
  split at h
  · cases h
    cases dl with
    | cons d1 d2 =>
      cases d2
      cases d1
      exact .inl ⟨_, rfl, k _ H1 H (.refl sm) (.int _)⟩
  · cases h
    cases dl with
    | cons d1 d2 =>
      cases d2
      cases d1
      exact .inr ⟨_, rfl, k _ H1 H (.refl sm) (.int _)⟩
  · cases h
/-! ### a[i] -/
def idxD : PyData → PyData → Option PyData
  | .list ds, .int i => atI ds i
  | .tuple ds, .int i => atI ds i
  | .str z, .int i => if z.length ≤ sizeLine then (atI z.cps.toList i).map fun c => .str ⟨#[c]⟩ else none
  | _, _ => none
theorem DenL.at {H : Hp} {xs : List V} {ds : List PyData} {i : Int} {c : PyData} (dl : DenL K H xs ds) (h : atI ds i = some c) : ∃ v, atI xs i = some v ∧ Den K H v c := by
  unfold atI at h
  obtain ⟨j, e1, e2⟩ := bind_some h
  obtain ⟨v, q1, q2⟩ := dl.get e2
  refine ⟨v, ?_, q2⟩
  unfold atI
  rw [dl.length, e1]
  exact q1
theorem v_idx : V2 K (rIx K) idxD := by
  intro x y d e c H1 H Q sm dx dy h k
  unfold idxD at h
  split at h
  · cases dx with
    | lst hs hl dl =>
      cases dy
      obtain ⟨v, q1, q2⟩ := dl.at h
      exact .inl ⟨_, _, _, _, rfl, rfl, sm.seq hs, q1, k _ H1 H (.refl sm) q2⟩
  · cases dx with
    | tup hs hl dl =>
      cases dy
      obtain ⟨v, q1, q2⟩ := dl.at h
      exact .inr (.inl ⟨_, _, _, _, rfl, rfl, sqT_mono sm hs, q1, k _ H1 H (.refl sm) q2⟩)
  · split at h
    · rename_i hz
      obtain ⟨cc, q1, rfl⟩ := map_some h
      cases dx
      cases dy
      exact .inr (.inr ⟨_, _, _, rfl, rfl, hz, q1, k _ H1 H (.refl sm) (.str _)⟩)
    · cases h
  · cases h
end
section
variable {X : Cx} {a b c e lo hi : Expr} {es : List Expr} {fa fb fc f fl fh : En → Option PyData} {fs : En → Option (List PyData)} {pos p p2 : Pos} {x : Str} {tg : Expr} {tf : En → Option Bool}
theorem de_ix (ha : DE X a fa) (hb : DE X b fb) (hs : PlainIx b := by exact fun _ _ => rfl) : DE X (.Subscript a b pos) (e2 idxD fa fb) := by
  obtain ⟨ta, pa, qa⟩ := ha
  obtain ⟨tb, pb, qb⟩ := hb
  refine ⟨_, pe_ix ix_seq pa pb hs, fun σ H1 H ρ d Q s h k => ?_⟩
  obtain ⟨d1, h1, h⟩ := bind_some h
  obtain ⟨d2, h2, h⟩ := bind_some h
  exact two qa qb s h1 h2 fun x y H1' H' x1 q1 q2 => v_idx x y d1 d2 d H1' H' Q x1.sub q1 q2 h fun v H2 H2' x2 => k v H2 H2' (x1.trans x2)
/-! ### slices -/
def asI : PyData → Option (Option Int)
  | .int i => some (some i)
  | _ => none
def oNo : En → Option (Option Int) := fun _ => some none
def oSo (f : En → Option PyData) : En → Option (Option Int) := fun ρ => (f ρ).bind asI
def DO (X : Cx) (e : Option Expr) (f : En → Option (Option Int)) : Prop :=
  ∃ t, PO X e t ∧ ∀ (σ : L2.St) (H1 H : Hp) (ρ : En) (d : Option Int) (Q : Option Int → Hp → Prop), Sok X.K H1 H σ ρ → f ρ = some d → (∀ H1' H', Ext H1 H H1' H' → Q d H') → t σ H Q
theorem do_no : DO X none oNo := ⟨_, po_none, fun σ H1 H ρ d Q s h k => by cases h; exact k H1 H (.refl s.sub)⟩
theorem do_so (h : DE X e f) : DO X (some e) (oSo f) := by
  obtain ⟨t, p, q⟩ := h
  refine ⟨_, po_some p, fun σ H1 H ρ d Q s h k => ?_⟩
  obtain ⟨d1, h1, h⟩ := bind_some h
  cases d1 <;> try (cases h)
  refine q σ H1 H ρ _ _ s h1 fun v H1' H' x dv => ?_
  cases dv
  exact ⟨_, rfl, k _ _ x⟩
def cutD {α : Type} (xs : List α) (lo hi : Option Int) : List α := (xs.drop (HT.sIx xs.length 0 lo)).take (HT.sIx xs.length xs.length hi - HT.sIx xs.length 0 lo)
theorem cutD_len {α : Type} (xs : List α) (lo hi : Option Int) : (cutD xs lo hi).length ≤ xs.length := by
  unfold cutD
  rw [List.length_take, List.length_drop]
  omega
theorem DenL.cut {K : PySem.W.Frag} {H : Hp} {xs : List V} {ds : List PyData} (dl : DenL K H xs ds) (lo hi : Option Int) : DenL K H (cutV xs lo hi) (cutD ds lo hi) := by
  unfold cutV cutD
  rw [dl.length]
  exact (dl.drop _).take _
def slD (lo hi : Option Int) : PyData → Option PyData
  | .list ds => some (.list (cutD ds lo hi))
  | .tuple ds => some (.tuple (cutD ds lo hi))
  | .str z => if z.length ≤ sizeLine then some (.str (cutS z lo hi)) else none
  | _ => none
def eSl (f : En → Option PyData) (l h : En → Option (Option Int)) : En → Option PyData := fun ρ => (f ρ).bind fun d => (l ρ).bind fun lo => (h ρ).bind fun hi => slD lo hi d
def rSlAll (K : PySem.W.Frag) : V → Option Int → Option Int → Hp → VK → Prop := fun x lo hi H Q => rSlL K x lo hi H Q ∨ rSlA K x lo hi H Q ∨ rSlS x lo hi H Q
theorem sl_all : SlR X (rSlAll X.K) := sl_list.or (sl_tupA.or sl_str)
theorem v_sl {K : PySem.W.Frag} {x : V} {d c : PyData} {lo hi : Option Int} {H1 H : Hp} {Q : VK} (sm : Same H1 H) (dx : Den K H1 x d) (h : slD lo hi d = some c) (k : ∀ v H1' H', Ext H1 H H1' H' → Den K H1' v c → Q v H') : rSlAll K x lo hi H Q := by
  unfold slD at h
  split at h
  · cases h
    cases dx with
    | lst hs hl dl => exact .inl ⟨_, _, rfl, sm.seq hs, fun p n => k _ _ _ (.new sm n) (.lst (.of upd_same) (Nat.le_trans (cutD_len _ _ _) hl) (DenL.mono (same_new (sm.free n)) _ _ (dl.cut lo hi)))⟩
  · cases h
    cases dx with
    | tup hs hl dl =>
      refine .inr (.inl ⟨_, _, rfl, sqT_mono sm hs, fun hw => ?_, fun _ p n => k _ _ _ (.new sm n) (.tup (.of upd_same) (Nat.le_trans (cutD_len _ _ _) hl) (DenL.mono (same_new (sm.free n)) _ _ (dl.cut lo hi)))⟩)
      refine k _ H1 H (.refl sm) ?_
      rename_i ds A xs
      have hx : xs.length = ds.length := dl.length
      rw [hx] at hw
      have e : cutD ds lo hi = ds := by
        unfold cutD
        rw [hw.1, hw.2, List.drop_zero, Nat.sub_zero, List.take_length]
      rw [e]
      exact .tup hs hl dl
  · obtain ⟨hz, rfl⟩ := of_if h
    cases dx
    exact .inr (.inr ⟨_, rfl, hz, k _ H1 H (.refl sm) (.str _)⟩)
  · cases h
theorem de_sl {olo ohi : Option Expr} {gl gh : En → Option (Option Int)} (he : DE X e f) (hl : DO X olo gl) (hu : DO X ohi gh) : DE X (.Subscript e (.Slice olo ohi none p2) pos) (eSl f gl gh) := by
  obtain ⟨t, pt, q⟩ := he
  obtain ⟨tl, pl, ql⟩ := hl
  obtain ⟨th, ph, qh⟩ := hu
  refine ⟨_, pe_slice sl_all pt pl ph, fun σ H1 H ρ d Q s h k => ?_⟩
  obtain ⟨d1, h1, h⟩ := bind_some h
  obtain ⟨lo, h2, h⟩ := bind_some h
  obtain ⟨hi, h3, h⟩ := bind_some h
  refine q σ H1 H ρ d1 _ s h1 fun v H1' H' x dv => ql σ H1' H' ρ lo _ (s.ext x) h2 fun H2 H2' x2 => qh σ H2 H2' ρ hi _ ((s.ext x).ext x2) h3 fun H3 H3' x3 => ?_
  have x4 := (x.trans x2).trans x3
  exact v_sl x3.sub (Den.mono (x2.st.trans x3.st) _ _ dv) h fun w H4 H4' x5 dw => k w H4 H4' (x4.trans x5) dw

/-! ### isinstance -/
def tyN : PyData → String
  | .none => "NoneType"
  | .bool _ => "bool"
  | .int _ => "int"
  | .str _ => "str"
  | .list _ => "list"
  | .tuple _ => "tuple"
  | .dict _ => "dict"
theorem Den.tyX {K : PySem.W.Frag} {H : Hp} {v : V} {d : PyData} (h : Den K H v d) : TyX K H v (.type (tyN d)) := by
  cases h with
  | non => exact .base .non
  | bl b => exact .base (.bl b)
  | int i => exact .base (.int i)
  | str x => exact .base (.str x)
  | lst hs _ _ =>
    rcases hs with (h | ⟨o, h⟩) | ⟨o, its, n, h, c, _⟩
    · exact .base (.lst h)
    · exact .base (.frz h)
    · exact .kList h c
  | tup hs _ _ =>
    rcases hs with (h | ⟨o, h⟩) | ⟨o, its, n, h, c, _⟩
    · exact .base (.tup h)
    · exact .fTuple h
    · exact .kTuple h c
def isiD (T : String) (d : PyData) : Option PyData := (kitB (tyN d) T).map PyData.bool
theorem de_isi {T : String} {pT : Pos} {y : Str} (he : DE X e f) (hg : Gl X "isinstance") (hm : X.mg "isinstance" = none) (hgT : Gl X y) (hmT : X.mg y = none) (hvT : bootBuiltins y = some (.type T)) (hn : y ≠ "__name__" := by decide) (hd : (y == ("__debug__" : Str)) = false := by decide)
    (hst : starEach (e :: [.Name y pT]) X.env = (false, eval e X.env) :: starEach [.Name y pT] X.env := by rfl) (hst2 : starEach (.Name y pT :: []) X.env = (false, eval (.Name y pT) X.env) :: starEach [] X.env := by rfl) (hpl : (backTo pos (starEach [.Name y pT] X.env)).any (·.1) = false := by rfl) :
    DE X (.Call (.Name "isinstance" p) [e, .Name y pT] [] pos) (e1 (isiD T) f) := by
  obtain ⟨t, pt, q⟩ := he
  refine ⟨_, pe_callB call_isi hg hm (by decide +kernel) (pa_cons pt (pa_cons (pe_bltn (v := .ty T) hgT hmT hvT rfl hn hd) pa_nil hst2) hst) (he := hst) (hpl := hpl), fun σ H1 H ρ d Q s h k => ?_⟩
  obtain ⟨d1, h1, h⟩ := bind_some h
  obtain ⟨b, h2, rfl⟩ := map_some h
  refine q σ H1 H ρ d1 _ s h1 fun v H1' H' x dv => ?_
  exact ⟨v, .ty T, .type (tyN d1), .type T, b, rfl, .ty T, Den.tyX (Den.mono x.sub _ _ dv), kit_ty h2, k _ _ _ x (.bl b)⟩

/-! ### range(..) as a list, a tuple -/
theorem rgV_den {K : PySem.W.Frag} {H : Hp} (a b : Int) : DenL K H (rgV a b) (rng a (b - a).toNat) := by
  unfold rgV rng
  generalize List.range (b - a).toNat = l
  induction l with
  | nil => exact .nil
  | cons i l ih => exact .cons (.int _) ih
def rgOkB (a b : Int) : Bool := decide (a.natAbs ≤ 4194304) && decide (b.natAbs ≤ 4194304)
theorem rgOkB_ok {a b : Int} (h : rgOkB a b = true) : RgOk a b ∧ (b - a).toNat ≤ sizeLine := by
  unfold rgOkB at h
  simp only [Bool.and_eq_true, decide_eq_true_eq] at h
  rw [sizeLine_eq]
  exact ⟨⟨by omega, by omega, by omega, by omega, by omega⟩, by omega⟩
def rngD1 : PyData → Option (List PyData)
  | .int n => if rgOkB 0 n = true then some (rng 0 (n - 0).toNat) else none
  | _ => none
def eRg1 (f : En → Option PyData) : En → Option (List PyData) := fun ρ => (f ρ).bind rngD1
theorem dl_listRg {p1 p2 : Pos} (hc : X.calm = true) (hg : Gl X "list") (hm : X.mg "list" = none) (hg2 : Gl X "range") (hm2 : X.mg "range" = none) (ha : DE X a fa) (na : starEach [a] X.env = (false, eval a X.env) :: starEach [] X.env := by rfl)
    (nb : starEach [.Call (.Name "range" p1) [a] [] p2] X.env = (false, eval (.Call (.Name "range" p1) [a] [] p2) X.env) :: starEach [] X.env := by rfl) : DL X (.Call (.Name "list" p) [.Call (.Name "range" p1) [a] [] p2] [] pos) (eRg1 fa) := by
  obtain ⟨t, pt, q⟩ := ha
  refine ⟨_, pe_listRg hc hg hm (prg_1 hg2 hm2 pt na) nb, fun σ H1 H ρ d Q s h k => ?_⟩
  obtain ⟨d1, h1, h⟩ := bind_some h
  cases d1 <;> try (cases h)
  obtain ⟨hr, rfl⟩ := of_if h
  refine q σ H1 H ρ _ _ s h1 fun v H1' H' x dv => ?_
  cases dv
  obtain ⟨r1, r2⟩ := rgOkB_ok hr
  exact ⟨_, rfl, r1, fun p n => k p _ H1' _ (x.trans (.newMut x.sub n)) ((Ext.same s.sub x).free n) upd_same (x.sub.free n) (by rw [rng_len]; exact r2) (rgV_den _ _)⟩
def eRg1T (f : En → Option PyData) : En → Option PyData := fun ρ => (eRg1 f ρ).map PyData.tuple
theorem de_tupRg {p1 p2 : Pos} (hc : X.calm = true) (hg : Gl X "tuple") (hm : X.mg "tuple" = none) (hg2 : Gl X "range") (hm2 : X.mg "range" = none) (ha : DE X a fa) (na : starEach [a] X.env = (false, eval a X.env) :: starEach [] X.env := by rfl)
    (nb : starEach [.Call (.Name "range" p1) [a] [] p2] X.env = (false, eval (.Call (.Name "range" p1) [a] [] p2) X.env) :: starEach [] X.env := by rfl) : DE X (.Call (.Name "tuple" p) [.Call (.Name "range" p1) [a] [] p2] [] pos) (eRg1T fa) := by
  obtain ⟨t, pt, q⟩ := ha
  refine ⟨_, pe_tupRg hc hg hm (prg_1 hg2 hm2 pt na) nb, fun σ H1 H ρ d Q s h k => ?_⟩
  obtain ⟨rs, h', rfl⟩ := map_some h
  obtain ⟨d1, h1, h⟩ := bind_some h'
  cases d1 <;> try (cases h)
  obtain ⟨hr, rfl⟩ := of_if h
  refine q σ H1 H ρ _ _ s h1 fun v H1' H' x dv => ?_
  cases dv
  obtain ⟨r1, r2⟩ := rgOkB_ok hr
  exact ⟨_, rfl, r1, fun p n => k _ _ _ (x.trans (.new x.sub n)) (.tup (.of upd_same) (by rw [rng_len]; exact r2) (rgV_den _ _))⟩

/-! ### zip of two lists, of two tuples -/
def zipD : List PyData → List PyData → List PyData
  | a :: as, b :: bs => .tuple [a, b] :: zipD as bs
  | _, _ => []
theorem zipD_get : ∀ {as bs : List PyData} {i : Nat} {d : PyData}, (zipD as bs)[i]? = some d → ∃ a b, d = .tuple [a, b] ∧ as[i]? = some a ∧ bs[i]? = some b
  | [], _, _, _, h => by simp [zipD] at h
  | _ :: _, [], _, _, h => by simp [zipD] at h
  | a :: as, b :: bs, 0, d, h => by
    have e : PyData.tuple [a, b] = d := by simpa [zipD] using h
    exact ⟨a, b, e.symm, rfl, rfl⟩
  | a :: as, b :: bs, i + 1, d, h => zipD_get (as := as) (bs := bs) (i := i) (by simpa [zipD] using h)
theorem zipD_len : ∀ (as bs : List PyData), (zipD as bs).length = min as.length bs.length
  | [], bs => by cases bs <;> simp [zipD]
  | _ :: _, [] => by simp [zipD]
  | a :: as, b :: bs => by
    show (zipD as bs).length + 1 = _
    rw [zipD_len as bs, List.length_cons, List.length_cons]
    omega
def zip2D : List PyData → Option (List PyData)
  | [.list a, .list b] => some (zipD a b)
  | [.tuple a, .tuple b] => some (zipD a b)
  | _ => none
theorem new2 {K : PySem.W.Frag} {H1 H : Hp} {T : Addr} {x y : V} {d e : PyData} (s : Same H1 H) (n : H T = none) (dx : Den K H1 x d) (dy : Den K H1 y e) : Ext H1 H (upd H1 T (.tup [x, y])) (upd H T (.tup [x, y])) ∧ Den K (upd H1 T (.tup [x, y])) (.ref T) (.tuple [d, e]) :=
  ⟨.new s n, .tup (.of upd_same) (by show 2 ≤ sizeLine; decide) (DenL.mono (same_new (s.free n)) _ _ (.cons dx (.cons dy .nil)))⟩
theorem di_zip {elts : List Expr} {kk : Nat} {tpos : Pos} (ha : DA X [a, b] fs) (hg : Gl X "zip") (hm : X.mg "zip" = none) (hs : starEach [a, b] X.env = (false, eval a X.env) :: starEach [b] X.env := by rfl) (hpl : (backTo pos (starEach [b] X.env)).any (·.1) = false := by rfl) :
    DI X (.Tuple elts kk tpos) (.Call (.Name "zip" p) [a, b] [] pos) (eNL zip2D fs) := by
  obtain ⟨t, pt, q⟩ := ha
  refine ⟨_, RZ.pi_zipA hg hm pt hs hpl, fun σ H1 H ρ ds R s h k => ?_⟩
  obtain ⟨es, e1, h⟩ := bind_some h
  refine q σ H1 H ρ es _ s e1 fun vs H1' H' x dv => ?_
  unfold zip2D at h
  split at h
  · cases h
    cases dv with
    | cons d1 d2 =>
      cases d2 with
      | cons d2 d3 =>
        cases d3
        cases d1 with
        | lst hs1 hl1 dl1 =>
          cases d2 with
          | lst hs2 hl2 dl2 =>
            refine ⟨_, _, _, _, rfl, .inl ⟨x.sub.seq hs1, x.sub.seq hs2, k _ H1' H' x (by rw [zipD_len]; omega) ?_⟩⟩
            intro G1 G s1 s2 i
            refine ⟨fun d e => ?_, fun l => ?_⟩
            · obtain ⟨u, w, rfl, q1, q2⟩ := zipD_get e
              obtain ⟨v1, g1, z1⟩ := dl1.get q1
              obtain ⟨v2, g2, z2⟩ := dl2.get q2
              refine ⟨⟨_, _, v1, v2, (s1.trans s2).seq hs1, (s1.trans s2).seq hs2, g1, g2⟩, fun y G' hy => ?_⟩
              obtain ⟨T, y1, y2, rfl, nT, rfl, f1, f2⟩ := hy
              have b1 := f1 _ ((s1.trans s2).seq hs1)
              have b2 := f2 _ ((s1.trans s2).seq hs2)
              rw [g1] at b1
              rw [g2] at b2
              cases b1
              cases b2
              exact ⟨_, new2 s2 nT (Den.mono s1 _ _ z1) (Den.mono s1 _ _ z2)⟩
            · rw [zipD_len, ← dl1.length, ← dl2.length] at l
              exact ⟨_, _, (s1.trans s2).seq hs1, (s1.trans s2).seq hs2, by omega⟩
  · cases h
    cases dv with
    | cons d1 d2 =>
      cases d2 with
      | cons d2 d3 =>
        cases d3
        cases d1 with
        | tup hs1 hl1 dl1 =>
          cases d2 with
          | tup hs2 hl2 dl2 =>
            refine ⟨_, _, _, _, rfl, .inr ⟨sqT_mono x.sub hs1, sqT_mono x.sub hs2, k _ H1' H' x (by rw [zipD_len]; omega) ?_⟩⟩
            intro G1 G s1 s2 i
            refine ⟨fun d e => ?_, fun l => ?_⟩
            · obtain ⟨u, w, rfl, q1, q2⟩ := zipD_get e
              obtain ⟨v1, g1, z1⟩ := dl1.get q1
              obtain ⟨v2, g2, z2⟩ := dl2.get q2
              refine ⟨⟨_, _, v1, v2, sqT_mono (s1.trans s2) hs1, sqT_mono (s1.trans s2) hs2, g1, g2⟩, fun y G' hy => ?_⟩
              obtain ⟨T, y1, y2, rfl, nT, rfl, f1, f2⟩ := hy
              have b1 := f1 _ (sqT_mono (s1.trans s2) hs1)
              have b2 := f2 _ (sqT_mono (s1.trans s2) hs2)
              rw [g1] at b1
              rw [g2] at b2
              cases b1
              cases b2
              exact ⟨_, new2 s2 nT (Den.mono s1 _ _ z1) (Den.mono s1 _ _ z2)⟩
            · rw [zipD_len, ← dl1.length, ← dl2.length] at l
              exact ⟨_, _, sqT_mono (s1.trans s2) hs1, sqT_mono (s1.trans s2) hs2, by omega⟩
  · cases h

/-! ### lists that the def changes, read -/
def eLenM (i : Nat) : En → Option PyData := fun ρ => match ρ[i]? with
  | some (some (.ml ds)) => some (.int ds.length)
  | _ => none
def eIdxM (i : Nat) (f : En → Option PyData) : En → Option PyData := fun ρ => (f ρ).bind fun k => match k, ρ[i]? with
  | .int n, some (some (.ml ds)) => atI ds n
  | _, _ => none
def eTupM (i : Nat) : En → Option PyData := fun ρ => match ρ[i]? with
  | some (some (.ml ds)) => some (.tuple ds)
  | _ => none
theorem de_idxM (i : Nat) {x : Str} {px : Pos} (hb : DE X b fb) (hN : X.N[i]? = some x := by rfl) (hv : Vis X.env.scope x := by first | exact Or.inl rfl | exact Or.inr (Or.inl rfl) | exact Or.inr (Or.inr rfl)) (hd : (x == ("__debug__" : Str)) = false := by decide)
    (hcd : (x == ("__classdict__" : Str)) = false := by decide) (hs : PlainIx b := by exact fun _ _ => rfl) : DE X (.Subscript (.Name x px) b pos) (eIdxM i fb) := by
  obtain ⟨tb, pb, qb⟩ := hb
  refine ⟨_, pe_ix ix_list (pe_var hN hv hd hcd) pb hs, fun σ H1 H ρ d Q s h k => ?_⟩
  obtain ⟨kk, h1, h⟩ := bind_some h
  split at h
  · rename_i n ds em
    obtain ⟨A, vs, eσ, hA, nA, hl, dl⟩ := s.ml em
    refine ⟨_, eσ, qb σ H1 H ρ _ _ s h1 fun w H1' H' x dw => ?_⟩
    cases dw
    obtain ⟨nA', hA'⟩ := x.fr A _ hA nA
    obtain ⟨v, q1, q2⟩ := (DenL.mono x.st _ _ dl).at h
    exact ⟨A, vs, n, v, rfl, rfl, .of hA', q1, k v _ _ x q2⟩
  · cases h
theorem de_lenM (i : Nat) {x : Str} {px : Pos} (hg : Gl X "len") (hm : X.mg "len" = none) (hN : X.N[i]? = some x := by rfl) (hv : Vis X.env.scope x := by first | exact Or.inl rfl | exact Or.inr (Or.inl rfl) | exact Or.inr (Or.inr rfl)) (hd : (x == ("__debug__" : Str)) = false := by decide)
    (hcd : (x == ("__classdict__" : Str)) = false := by decide) (hst : starEach (.Name x px :: []) X.env = (false, eval (.Name x px) X.env) :: starEach [] X.env := by rfl) (hpl : (backTo pos (starEach [] X.env)).any (·.1) = false := by rfl) : DE X (.Call (.Name "len" p) [.Name x px] [] pos) (eLenM i) := by
  refine ⟨_, pe_callB call_len_seq hg hm PySem.boot_len (pa_cons (pe_var hN hv hd hcd) pa_nil hst) (he := hst) (hpl := hpl), fun σ H1 H ρ d Q s h k => ?_⟩
  unfold eLenM at h
  split at h
  · rename_i ds em
    cases h
    obtain ⟨A, vs, eσ, hA, nA, hl, dl⟩ := s.ml em
    refine ⟨_, eσ, A, vs, rfl, .inl (.of hA), ?_⟩
    rw [dl.length]
    exact k _ H1 H (.refl s.sub) (.int _)
  · cases h
theorem de_tupM (i : Nat) {x : Str} {px : Pos} (hg : Gl X "tuple") (hm : X.mg "tuple" = none) (hN : X.N[i]? = some x := by rfl) (hv : Vis X.env.scope x := by first | exact Or.inl rfl | exact Or.inr (Or.inl rfl) | exact Or.inr (Or.inr rfl)) (hd : (x == ("__debug__" : Str)) = false := by decide)
    (hcd : (x == ("__classdict__" : Str)) = false := by decide) (hst : starEach (.Name x px :: []) X.env = (false, eval (.Name x px) X.env) :: starEach [] X.env := by rfl) (hpl : (backTo pos (starEach [] X.env)).any (·.1) = false := by rfl) : DE X (.Call (.Name "tuple" p) [.Name x px] [] pos) (eTupM i) := by
  refine ⟨_, pe_callTy call_tuple_of hg hm boot_tuple (pa_cons (pe_var hN hv hd hcd) pa_nil hst) (he := hst) (hpl := hpl), fun σ H1 H ρ d Q s h k => ?_⟩
  unfold eTupM at h
  split at h
  · rename_i ds em
    cases h
    obtain ⟨A, vs, eσ, hA, nA, hl, dl⟩ := s.ml em
    refine ⟨_, eσ, A, vs, rfl, .inl ⟨.of hA, fun p n => ?_⟩⟩
    exact k _ _ _ (.new s.sub n) (.tup (.of upd_same) hl (DenL.mono (same_new (s.sub.free n)) _ _ dl))
  · cases h
/-- chains a < b < c -/
def eChain (g g' : PyData → PyData → Option PyData) (fa fb fc : En → Option PyData) : En → Option PyData := fun ρ => (fa ρ).bind fun d => (fb ρ).bind fun e => ((g d e).bind asB).bind fun b => if b = true then (fc ρ).bind fun c => ((g' e c).bind asB).map PyData.bool else some (.bool false)
end
end Dv

namespace Dv
open PySem PySem.Spec PyProof.Rows L2 HT

/-! ### xs[::-1] of a list, of a tuple -/
section
variable {prog : Program} {w : World} {A : Around} {E : Value → Shared → Prop} {s : Shared}
theorem sliceApplied_rev {sl : Addr} {vs : Value} {n : Nat} {Q : Int × Int × Nat → Shared → Prop} (hs : s.heap.IsSliceOf sl .none .none vs) (ps : IsPart vs (some (-1)))
    (h : Q ((n : Int) - 1, -1, n) s) : wpAny (model prog w) A (Builtin.Slice.sliceApplied (.ref sl) (pure (n : Int))) Q E s := by
  obtain ⟨os, hos, hcs, hds⟩ := id hs
  unfold Builtin.Slice.sliceApplied Builtin.Slice.sliceFields
  refine wpAny_bind (wpAny_bind (wpAny_field hos hds (x := .none) rfl (wpAny_bind (wpAny_field hos hds (x := .none) rfl (wpAny_bind (wpAny_field hos hds (x := vs) rfl (wpAny_pure ?_)))))))
  refine wpAny_bind (slicePart_ ps ?_)
  show wpAny _ _ (if ((-1 : Int) == 0) = true then _ else _) _ _ s
  rw [if_neg (by decide)]
  refine wpAny_bind (slicePart_none (wpAny_bind (slicePart_none (wpAny_bind (wpAny_pure ?_)))))
  show wpAny _ _ (pure (((n : Int) - 1, (-1 : Int), Builtin.Slice.slicePlaces ((n : Int) - 1) (-1) (-1)))) _ _ s
  have e : Builtin.Slice.slicePlaces ((n : Int) - 1) (-1) (-1) = n := by
    unfold Builtin.Slice.slicePlaces
    rw [if_neg (by decide)]
    by_cases h0 : (n : Int) - 1 > -1
    · rw [if_pos h0, show (- -1 : Int) = 1 by decide, Int.ediv_one]
      omega
    · rw [if_neg h0]; omega
  rw [e]
  exact wpAny_pure h
theorem pick_rev (xs : Array Value) : ((List.range xs.size).filterMap fun (k : Nat) => xs[((xs.size : Int) - 1 + (k : Int) * (-1)).toNat]?).toArray = xs.toList.reverse.toArray := by
  have e : (fun (k : Nat) => xs[((xs.size : Int) - 1 + (k : Int) * (-1)).toNat]?) = fun (k : Nat) => xs[((xs.size : Int) - 1 + (-1) * (k : Int)).toNat]? := by
    funext k
    rw [Int.mul_comm]
  rw [e]
  have q := PySem.W.krv_pick xs
  unfold slicePick at q
  rw [PySem.W.krv_bounds] at q
  have h2 : sliceRange ((xs.size : Int) - 1) (-1) (-1) = (List.range xs.size).map fun (k : Nat) => ((xs.size : Int) - 1 + (-1) * (k : Int)).toNat := by
    rw [PySem.W.krv_sliceRange]
    apply List.map_congr_left
    intro k hk
    have := List.mem_range.mp hk
    omega
  have q2 : ((sliceRange ((xs.size : Int) - 1) (-1) (-1)).filterMap (xs[·]?)).toArray = xs.toList.reverse.toArray := q
  rw [h2, List.filterMap_map] at q2
  exact q2
theorem getItem_tuple_rev {t sl : Addr} {items : Array Value} {vs : Value} {Q : Value → Shared → Prop} (ht : IsTup s.heap t items) (hs : s.heap.IsSliceOf sl .none .none vs) (ps : IsPart vs (some (-1)))
    (h : Q (.ref s.heap.objs.size) { s with heap := s.heap.push { cls := .type "tuple", data := .seq items.toList.reverse.toArray } })
    (hsz : items.size ≤ sizeLine) : wpAny (model prog w) A (getItem (.ref t) (.ref sl)) Q E s := by
  have htake : sizeOk (.seq items.toList.reverse.toArray) := by
    show items.toList.reverse.toArray.size ≤ sizeLine
    rw [List.size_toArray, List.length_reverse, Array.length_toList]
    exact hsz
  obtain ⟨os, hos, hcs, hds⟩ := id hs
  have hTs : s.TypeIs (.ref sl) "slice" := ⟨os, hos, hcs⟩
  unfold getItem
  try with_reducible refine wpAny_holding ?_
  first | refine wpAny_bind (wpAny_pure ?_) | skip
  refine wpAny_bind (wpAny_sequenceKey ht.typeIs (by decide) ?_)
  refine wpAny_bind (wpAny_callSpecial?_slot (name := Str.ofString "__getitem__") ht.typeIs PyProof.Rows.slot_tuple_getitem
    (wpAny_call_entry PyProof.Rows.slot_tuple_getitem ht.typeIs entry_tuple_getitem ?_ (args_tuple_getitem _ _)))
  show wpAny _ _ (Builtin.Tuple.tupleItemsOf (.ref t) >>= _) _ _ s
  refine wpAny_bind (tupleItemsOf_ ht ?_)
  refine wpAny_bind (wpAny_typeOf hTs ?_)
  rw [if_pos (by decide)]
  refine wpAny_bind (sliceApplied_rev hs ps ?_)
  have hno : ¬ ((((items.size : Int) - 1) == 0 && (-1 : Int) == 1 && items.size == items.size) = true) := by
    rw [show ((-1 : Int) == 1) = false from by decide, Bool.and_false, Bool.false_and]
    exact Bool.false_ne_true
  show wpAny _ _ (if (((items.size : Int) - 1) == 0 && (-1 : Int) == 1 && items.size == items.size) = true then _ else _) _ _ s
  rw [if_neg hno, pick_rev]
  first
    | exact wpAny_bind (m := Builtin.Tuple.tupleExact _) (wpAny_newObj_type (wpAny_pure ⟨_, rfl, wpAny_pure h⟩) htake)
    | exact wpAny_bind (m := Builtin.Tuple.tupleExact _) (wpAny_newObj_type (wpAny_bind (wpAny_pure (wpAny_pure ⟨_, rfl, wpAny_pure h⟩))) htake)
    | exact wpAny_bind (wpAny_bind (m := Builtin.Tuple.tupleExact _) (wpAny_newObj_type (wpAny_pure (wpAny_pure ⟨_, rfl, wpAny_pure h⟩)) htake))
    | exact wpAny_bind (wpAny_bind (m := Builtin.Tuple.tupleExact _) (wpAny_newObj_type (wpAny_pure ⟨_, rfl, wpAny_pure h⟩) htake))
end
section
variable {X : Cx} {a b c e : Expr} {es : List Expr} {fa fb fc f : En → Option PyData} {fs : En → Option (List PyData)} {pos p : Pos} {x : Str} {tg : Expr} {tf : En → Option Bool}
/-- xs[lo::st] of a list by constants, t[::-1] of a tuple -/
def stepL {α : Type} (lo st : Option Int) (ds : List α) : List α := (sliceRange (sliceBounds lo none st ds.length).1 (sliceBounds lo none st ds.length).2.1 (sliceBounds lo none st ds.length).2.2).filterMap (ds[·]?)
def tStL (K : PySem.W.Frag) (lo st : Option Int) (te : TE) : TE := fun σ H Q => te σ H fun x H1 => ∃ a xs, x = .ref a ∧ SqL K H1 a xs ∧ ∀ p, H1 p = none → Q (.ref p) (upd H1 p (.lst (stepL lo st xs)))
theorem vals_fil {xs : List V} {us : List Value} (h : Vals xs us) : ∀ is : List Nat, Vals (is.filterMap (xs[·]?)) (is.filterMap (us[·]?))
  | [] => .nil
  | i :: is => by
    rw [List.filterMap_cons, List.filterMap_cons]
    cases e : xs[i]? with
    | some x =>
      obtain ⟨u, hu, ru⟩ := h.get e
      rw [hu]
      exact .cons ru (vals_fil h is)
    | none =>
      have l := List.getElem?_eq_none_iff.mp e
      rw [h.length] at l
      rw [List.getElem?_eq_none l]
      exact vals_fil h is
theorem denL_fil {K : PySem.W.Frag} {H : Hp} {vs : List V} {ds : List PyData} (h : DenL K H vs ds) : ∀ is : List Nat, DenL K H (is.filterMap (vs[·]?)) (is.filterMap (ds[·]?))
  | [] => .nil
  | i :: is => by
    rw [List.filterMap_cons, List.filterMap_cons]
    cases e : ds[i]? with
    | some x =>
      obtain ⟨u, hu, ru⟩ := h.get e
      rw [hu]
      exact .cons ru (denL_fil h is)
    | none =>
      have l := List.getElem?_eq_none_iff.mp e
      rw [← h.length] at l
      rw [List.getElem?_eq_none l]
      exact denL_fil h is
theorem stepL_len {α : Type} (lo st : Option Int) (ds : List α) : (stepL lo st ds).length ≤ ds.length := by
  have h := slicePick_size_le (ds.map fun _ => Value.none).toArray lo none st
  unfold slicePick at h
  unfold stepL
  rw [List.size_toArray] at h
  have e : ∀ is : List Nat, (is.filterMap (ds[·]?)).length = (is.filterMap ((ds.map fun _ => Value.none).toArray[·]?)).length := by
    intro is
    induction is with
    | nil => rfl
    | cons i is ih =>
      rw [List.filterMap_cons, List.filterMap_cons]
      rw [List.getElem?_toArray, List.getElem?_map]
      cases ds[i]? with
      | none => exact ih
      | some x => exact congrArg Nat.succ ih
  rw [e]
  have z : (ds.map fun _ => Value.none).toArray.size = ds.length := by simp
  rw [z] at h
  exact h
theorem pe_stL {olo : Option Expr} {ost : Option Expr} {lo st : Option Int} {te : TE} {p3 : Pos} (he : PE X e te) (h0 : st ≠ some 0)
    (hlo : ∀ (pins : List (Addr × Obj)) (s : Shared) (σ : L2.St) (H : Hp) (Q : Value → Shared → Prop), Inv X pins σ H s → (∀ v s', Inv X pins σ H s' → IsPart v lo → Q v s') → wpAny (model X.prog X.w) X.A (evalPart olo X.env) Q X.xe s)
    (hst : ∀ (pins : List (Addr × Obj)) (s : Shared) (σ : L2.St) (H : Hp) (Q : Value → Shared → Prop), Inv X pins σ H s → (∀ v s', Inv X pins σ H s' → IsPart v st → Q v s') → wpAny (model X.prog X.w) X.A (evalPart ost X.env) Q X.xe s)
    (hgo : ∀ x o, subscripted (.Slice olo none ost p3) false x o = operate [x, o] (getItem x o) := by intro _ _; with_unfolding_all rfl) : PE X (.Subscript e (.Slice olo none ost p3) pos) (tStL X.K lo st te) := by
  refine ⟨fun pins s σ H Q I h => ?_⟩
  refine Subscript_ (thn (he.run pins s σ H _ I h) fun v s1 ⟨x, H1, I1, r1, q1⟩ => ?_)
  obtain ⟨a, xs, ex, hx, q⟩ := q1
  subst ex
  cases r1
  refine wpAny_Slice (hlo pins s1 σ H1 _ I1 fun vl s2 I2 pl => ?_)
  refine thn (po_none.run pins s2 σ H1 (fun o H3 => o = none ∧ H3 = H1) I2 ⟨rfl, rfl⟩) fun vu s3 ⟨u, H3, I3, pu, eu, e3⟩ => ?_
  subst eu e3
  refine hst pins s3 σ H3 _ I3 fun vs s4 I4 ps => ?_
  have I5 : Inv X pins σ H3 { s4 with heap := s4.heap.push { cls := .type "slice", data := .fields #[vl, vu, vs] } } := I4.kept (t' := s4.toks) fun b ob q => Heap.get?_push_of_some _ q
  obtain ⟨its, r, ht, hz⟩ := I5.list hx
  have hlen := r.length
  show wpAny (model X.prog X.w) X.A (subscriptTail e (.Slice olo none ost p3) (.ref a) (.ref s4.heap.objs.size)) (EP X pins σ Q) X.xe { s4 with heap := s4.heap.push { cls := .type "slice", data := .fields #[vl, vu, vs] } }
  refine tail_any (ops := [.ref a, .ref s4.heap.objs.size]) ht.isList.typeIs (PySem.slot_list_getitem.lookup) ?_ (hgo _ _)
  refine wpAny_getItem_list_slice ht.isList (Heap.IsSliceOf.new _ vl vu vs) pl pu ps h0 ?_ (by rw [List.size_toArray]; omega)
  have ep : slicePick its.toArray lo none st = (stepL lo st its).toArray := by
    unfold slicePick stepL
    rw [List.size_toArray]
    have ef : (fun (k : Nat) => its.toArray[k]?) = fun (k : Nat) => its[k]? := by
      funext k
      rw [List.getElem?_toArray]
    rw [ef]
  rw [ep]
  refine ⟨.ref _, _, I5.laid (t' := s4.toks) (o := .lst (stepL lo st xs)) (fun b ob q => Heap.get?_push_of_some _ q) (Nat.le_refl _) ?_, rfl, q _ (I5.hok.fresh (Nat.le_refl _))⟩
  have ex : Vals (stepL lo st xs) (stepL lo st its) := by
    unfold stepL
    rw [← hlen]
    exact vals_fil r _
  exact ⟨Nat.le_trans (stepL_len _ _ _) (by omega), _, 0, ex, Heap.get?_push_size _ rfl⟩
def stD (lo st : Option Int) : PyData → Option PyData
  | .list ds => some (.list (stepL lo st ds))
  | _ => none
theorem part_none {pins : List (Addr × Obj)} {s : Shared} {σ : L2.St} {H : Hp} {Q : Value → Shared → Prop} (I : L2.Inv X pins σ H s) (k : ∀ v s', L2.Inv X pins σ H s' → IsPart v none → Q v s') : wpAny (model X.prog X.w) X.A (evalPart none X.env) Q X.xe s :=
  thn (po_none.run pins s σ H (fun o H3 => o = none ∧ H3 = H) I ⟨rfl, rfl⟩) fun vu s3 ⟨u, H3, I3, pu, eu, e3⟩ => by
    subst eu e3
    exact k vu s3 I3 pu
theorem part_int {i : Int} {kk pos} {pins : List (Addr × Obj)} {s : Shared} {σ : L2.St} {H : Hp} {Q : Value → Shared → Prop} (I : L2.Inv X pins σ H s) (k : ∀ v s', L2.Inv X pins σ H s' → IsPart v (some i) → Q v s') : wpAny (model X.prog X.w) X.A (evalPart (some (.Constant (.int i) kk pos)) X.env) Q X.xe s :=
  thn ((po_some (pe_int (X := X) (i := i) (j := kk) (pos := pos))).run pins s σ H (fun o H3 => o = some i ∧ H3 = H) I ⟨i, rfl, rfl, rfl⟩) fun vu s3 ⟨u, H3, I3, pu, eu, e3⟩ => by
    subst eu e3
    exact k vu s3 I3 pu
theorem part_neg {i : Int} {kk pos p2} {pins : List (Addr × Obj)} {s : Shared} {σ : L2.St} {H : Hp} {Q : Value → Shared → Prop} (I : L2.Inv X pins σ H s) (k : ∀ v s', L2.Inv X pins σ H s' → IsPart v (some (-i)) → Q v s') : wpAny (model X.prog X.w) X.A (evalPart (some (.UnaryOp .USub (.Constant (.int i) kk pos) p2)) X.env) Q X.xe s :=
  thn ((po_some (pe_un (X := X) un_neg (pe_int (i := i) (j := kk) (pos := pos)))).run pins s σ H (fun o H3 => o = some (-i) ∧ H3 = H) I ⟨i, rfl, -i, rfl, rfl, rfl⟩) fun vu s3 ⟨u, H3, I3, pu, eu, e3⟩ => by
    subst eu e3
    exact k vu s3 I3 pu
theorem den_stL {K : PySem.W.Frag} {H : Hp} {xs : List V} {ds : List PyData} (lo st : Option Int) (dl : DenL K H xs ds) : DenL K H (stepL lo st xs) (stepL lo st ds) := by
  unfold stepL
  rw [dl.length]
  exact denL_fil dl _
theorem de_stL {olo ost : Option Expr} {lo st : Option Int} {p3 : Pos} (he : DE X e f) (h0 : st ≠ some 0)
    (hlo : ∀ (pins : List (Addr × Obj)) (s : Shared) (σ : L2.St) (H : Hp) (Q : Value → Shared → Prop), L2.Inv X pins σ H s → (∀ v s', L2.Inv X pins σ H s' → IsPart v lo → Q v s') → wpAny (model X.prog X.w) X.A (evalPart olo X.env) Q X.xe s)
    (hst : ∀ (pins : List (Addr × Obj)) (s : Shared) (σ : L2.St) (H : Hp) (Q : Value → Shared → Prop), L2.Inv X pins σ H s → (∀ v s', L2.Inv X pins σ H s' → IsPart v st → Q v s') → wpAny (model X.prog X.w) X.A (evalPart ost X.env) Q X.xe s)
    (hgo : ∀ x o, subscripted (.Slice olo none ost p3) false x o = operate [x, o] (getItem x o) := by intro _ _; with_unfolding_all rfl) : DE X (.Subscript e (.Slice olo none ost p3) pos) (Dv.e1 (stD lo st) f) := by
  obtain ⟨t, pt, q⟩ := he
  refine ⟨_, pe_stL pt h0 hlo hst hgo, fun σ H1 H ρ d Q s h k => ?_⟩
  obtain ⟨d1, h1, h⟩ := bind_some h
  refine q σ H1 H ρ d1 _ s h1 fun v H1' H' x dv => ?_
  cases d1 <;> try (cases h)
  cases dv with
  | lst hs hl dl => exact ⟨_, _, rfl, x.sub.seq hs, fun p n => k _ _ _ (x.trans (.new x.sub n)) (.lst (.of upd_same) (Nat.le_trans (stepL_len _ _ _) hl) (DenL.mono (same_new (x.sub.free n)) _ _ (den_stL lo st dl)))⟩
theorem de_step2 {lo : Int} {k1 p1 k2 p2 p3} (he : DE X e f) (hgo : ∀ x o, subscripted (.Slice (some (.Constant (.int lo) k1 p1)) none (some (.Constant (.int 2) k2 p2)) p3) false x o = operate [x, o] (getItem x o) := by intro _ _; with_unfolding_all rfl) :
    DE X (.Subscript e (.Slice (some (.Constant (.int lo) k1 p1)) none (some (.Constant (.int 2) k2 p2)) p3) pos) (Dv.e1 (stD (some lo) (some 2)) f) :=
  de_stL he (by decide) (fun pins s σ H Q I k => part_int I k) (fun pins s σ H Q I k => part_int I k) hgo

/-! ### [::-1] of both -/
def revD : PyData → Option PyData
  | .list ds => some (.list ds.reverse)
  | .tuple ds => some (.tuple ds.reverse)
  | _ => none
def tRevA (K : PySem.W.Frag) (te : TE) : TE := fun σ H Q => te σ H fun x H1 => ∃ a xs, x = .ref a ∧ ((SqL K H1 a xs ∧ ∀ p, H1 p = none → Q (.ref p) (upd H1 p (.lst xs.reverse))) ∨ (SqT K H1 a xs ∧ ∀ p, H1 p = none → Q (.ref p) (upd H1 p (.tup xs.reverse))))
theorem pe_revA {te : TE} {k : Nat} {p1 p2 p3 : Pos} (he : PE X e te) : PE X (.Subscript e (.Slice none none (some (.UnaryOp .USub (.Constant (.int 1) k p1) p2)) p3) pos) (tRevA X.K te) := by
  refine ⟨fun pins s σ H Q I h => ?_⟩
  refine Subscript_ (thn (he.run pins s σ H _ I h) fun v s1 ⟨x, H1, I1, r1, q1⟩ => ?_)
  obtain ⟨a, xs, ex, hq⟩ := q1
  subst ex
  cases r1
  refine wpAny_Slice (part_none I1 fun vl s2 I2 pl => part_none I2 fun vu s3 I3 pu => part_neg I3 fun vs s4 I4 ps => ?_)
  have I5 : L2.Inv X pins σ H1 { s4 with heap := s4.heap.push { cls := .type "slice", data := .fields #[vl, vu, vs] } } := I4.kept (t' := s4.toks) fun b ob q => Heap.get?_push_of_some _ q
  show wpAny (model X.prog X.w) X.A (subscriptTail e (.Slice none none (some (.UnaryOp .USub (.Constant (.int 1) k p1) p2)) p3) (.ref a) (.ref s4.heap.objs.size)) (EP X pins σ Q) X.xe { s4 with heap := s4.heap.push { cls := .type "slice", data := .fields #[vl, vu, vs] } }
  rcases hq with ⟨hx, q⟩ | ⟨hx, q⟩
  · obtain ⟨its, r, ht, hz⟩ := I5.list hx
    have hlen := r.length
    refine tail_any (ops := [.ref a, .ref s4.heap.objs.size]) ht.isList.typeIs (PySem.slot_list_getitem.lookup) ?_ (by with_unfolding_all rfl)
    refine wpAny_getItem_list_slice ht.isList (Heap.IsSliceOf.new _ vl vu vs) pl pu ps (by decide) ?_ (by rw [List.size_toArray]; omega)
    rw [PySem.W.krv_pick]
    refine ⟨.ref _, _, I5.laid (t' := s4.toks) (o := .lst xs.reverse) (fun b ob q => Heap.get?_push_of_some _ q) (Nat.le_refl _) ?_, rfl, q _ (I5.hok.fresh (Nat.le_refl _))⟩
    exact ⟨by rw [List.length_reverse]; exact hz, _, 0, r.reverse, Heap.get?_push_size _ rfl⟩
  · obtain ⟨its, r, ht, hz⟩ := I5.tuple hx
    have hlen := r.length
    cases pl
    cases pu
    refine tail_any (ops := [.ref a, .ref s4.heap.objs.size]) ht.typeIs (PyProof.Rows.slot_tuple_getitem.lookup) ?_ (by with_unfolding_all rfl)
    refine getItem_tuple_rev ht (Heap.IsSliceOf.new _ .none .none vs) ps ?_ (by rw [List.size_toArray]; omega)
    refine ⟨.ref _, _, I5.laid (t' := s4.toks) (o := .tup xs.reverse) (fun b ob q => Heap.get?_push_of_some _ q) (Nat.le_refl _) ?_, rfl, q _ (I5.hok.fresh (Nat.le_refl _))⟩
    exact ⟨by rw [List.length_reverse]; exact hz, its.reverse, r.reverse, IsTup.new _ _⟩
theorem de_rev {k : Nat} {p1 p2 p3 : Pos} (he : DE X e f) : DE X (.Subscript e (.Slice none none (some (.UnaryOp .USub (.Constant (.int 1) k p1) p2)) p3) pos) (Dv.e1 revD f) := by
  obtain ⟨t, pt, q⟩ := he
  refine ⟨_, pe_revA pt, fun σ H1 H ρ d Q s h k => ?_⟩
  obtain ⟨d1, h1, h⟩ := bind_some h
  refine q σ H1 H ρ d1 _ s h1 fun v H1' H' x dv => ?_
  cases d1 <;> try (cases h)
  all_goals cases dv
  · rename_i hs hl dl
    exact ⟨_, _, rfl, .inl ⟨x.sub.seq hs, fun p n => k _ _ _ (x.trans (.new x.sub n)) (.lst (.of upd_same) (by rw [List.length_reverse]; exact hl) (DenL.mono (same_new (x.sub.free n)) _ _ dl.reverse))⟩⟩
  · rename_i hs hl dl
    exact ⟨_, _, rfl, .inr ⟨sqT_mono x.sub hs, fun p n => k _ _ _ (x.trans (.new x.sub n)) (.tup (.of upd_same) (by rw [List.length_reverse]; exact hl) (DenL.mono (same_new (x.sub.free n)) _ _ dl.reverse))⟩⟩

/-! ### a < b < c -/
theorem bool_v {v : V} {b : Bool} {K : PySem.W.Frag} {H : Hp} (h : Den K H v (.bool b)) : v = .bl b := by cases h; rfl
theorem chain_read {r r' : R2} {g g' : PyData → PyData → Option PyData} (hr : V2 X.K r g) (hr' : V2 X.K r' g') {ta tb tc : TE}
    (qa : ∀ (σ : L2.St) (H1 H : Hp) (ρ : En) (d : PyData) (Q : VK), Sok X.K H1 H σ ρ → fa ρ = some d → (∀ v H1' H', Ext H1 H H1' H' → Den X.K H1' v d → Q v H') → ta σ H Q)
    (qb : ∀ (σ : L2.St) (H1 H : Hp) (ρ : En) (d : PyData) (Q : VK), Sok X.K H1 H σ ρ → fb ρ = some d → (∀ v H1' H', Ext H1 H H1' H' → Den X.K H1' v d → Q v H') → tb σ H Q)
    (qc : ∀ (σ : L2.St) (H1 H : Hp) (ρ : En) (d : PyData) (Q : VK), Sok X.K H1 H σ ρ → fc ρ = some d → (∀ v H1' H', Ext H1 H H1' H' → Den X.K H1' v d → Q v H') → tc σ H Q)
    (σ : L2.St) (H1 H : Hp) (ρ : En) (d : PyData) (Q : VK) (s : Sok X.K H1 H σ ρ) (h : eChain g g' fa fb fc ρ = some d) (k : ∀ v H1' H', Ext H1 H H1' H' → Den X.K H1' v d → Q v H') : tChain r r' ta tb tc σ H Q := by
  obtain ⟨d1, h1, h⟩ := bind_some h
  obtain ⟨d2, h2, h⟩ := bind_some h
  obtain ⟨b, h3, h⟩ := bind_some h
  obtain ⟨d3, h3, hb⟩ := bind_some h3
  have e := asB_some hb
  subst e
  refine qa σ H1 H ρ d1 _ s h1 fun v H1' H' x1 q1 => qb σ H1' H' ρ d2 _ (s.ext x1) h2 fun w H2 H2' x2 q2 => hr v w d1 d2 _ H2 H2' _ x2.sub (Den.mono x2.st _ _ q1) q2 h3 fun z H3 H3' x3 q3 => ⟨b, bool_v q3, ?_⟩
  have x4 := (x1.trans x2).trans x3
  cases b with
  | false =>
    cases h
    exact k _ _ _ x4 (.bl _)
  | true =>
    obtain ⟨d4, h4, h⟩ := bind_some h
    obtain ⟨b', h5, rfl⟩ := map_some h
    obtain ⟨d5, h5, hb5⟩ := bind_some h5
    have e5 := asB_some hb5
    subst e5
    exact qc σ H3 H3' ρ d4 _ (s.ext x4) h4 fun u H4 H4' x5 q5 => hr' w u d2 d4 _ H4 H4' Q x5.sub (Den.mono (x3.st.trans x5.st) _ _ q2) q5 h5 fun z H5 H5' x6 q6 => k z _ _ ((x4.trans x5).trans x6) q6
theorem de_chain {op op' : CmpOp} {r r' : R2} {g g' : PyData → PyData → Option PyData} (ho : OpR X (compareOp op) r) (hr : V2 X.K r g) (ho' : OpR X (compareOp op') r') (hr' : V2 X.K r' g') (ha : DE X a fa) (hb : DE X b fb) (hc : DE X c fc)
    (hm : lastMarks [op, op'] [b, c] = false := by with_unfolding_all rfl) : DE X (.Compare a [op, op'] [b, c] pos) (eChain g g' fa fb fc) := by
  obtain ⟨ta, pa, qa⟩ := ha
  obtain ⟨tb, pb, qb⟩ := hb
  obtain ⟨tc, pc, qc⟩ := hc
  exact ⟨_, pe_chain ho ho' pa pb pc hm, chain_read hr hr' qa qb qc⟩
theorem dt_chain {op op' : CmpOp} {r r' : R2} {g g' : PyData → PyData → Option PyData} (ho : OpR X (compareOp op) r) (hr : V2 X.K r g) (ho' : OpR X (compareOp op') r') (hr' : V2 X.K r' g') (ha : DE X a fa) (hb : DE X b fb) (hc : DE X c fc)
    (hm : lastMarks [op, op'] [b, c] = false := by with_unfolding_all rfl) : DT X (.Compare a [op, op'] [b, c] pos) (tB (eChain g g' fa fb fc)) := by
  obtain ⟨ta, pa, qa⟩ := ha
  obtain ⟨tb, pb, qb⟩ := hb
  obtain ⟨tc, pc, qc⟩ := hc
  refine ⟨_, pt_chain ho ho' pa pb pc hm, fun σ H1 H ρ d Q s h k => ?_⟩
  obtain ⟨d0, h, hb'⟩ := bind_some h
  have e := asB_some hb'
  subst e
  exact chain_read hr hr' qa qb qc σ H1 H ρ _ _ s h fun v H2 H2' x2 dv => ⟨d, bool_v dv, k H2 H2' x2⟩
end
end Dv

namespace Dv
open PySem PySem.Spec PyProof.Rows L2 HT

/-! ### range with a step (-1 or 2) -/
def rngC (lo c : Int) (n : Nat) : List PyData := (List.range n).map fun i => .int (lo + (i : Nat) * c)
theorem rngC_len (lo c : Int) (n : Nat) : (rngC lo c n).length = n := by unfold rngC; rw [List.length_map, List.length_range]
def rg3n (i j c : Int) : Option Nat := if i.natAbs ≤ 4194304 ∧ j.natAbs ≤ 4194304 then (if c = -1 then some (i - j).toNat else if c = 2 then some ((j - i + 1).toNat / 2) else none) else none
theorem rg3n_ok {i j c : Int} {n : Nat} (h : rg3n i j c = some n) : RgC i j c n ∧ n ≤ 16777216 := by
  unfold rg3n at h
  split at h
  · rename_i hb
    split at h
    · rename_i hc
      cases h
      subst hc
      exact ⟨.neg (by omega) (by omega) (by omega) (by omega), by omega⟩
    · split at h
      · rename_i hc
        cases h
        subst hc
        have e : Builtin.Range.rangeSize i j 2 = (((j - i + 1).toNat / 2 : Nat) : Int) := by
          unfold Builtin.Range.rangeSize
          rw [if_pos (by decide)]
          by_cases hij : i < j
          · rw [if_pos hij]; omega
          · rw [if_neg hij]; omega
        refine ⟨⟨by decide, by decide, ?_, e⟩, by omega⟩
        unfold Builtin.Range.small
        rw [e]
        simp only [Builtin.Range.rangeFitsLong, Bool.and_eq_true, Bool.or_eq_true, decide_eq_true_eq, beq_iff_eq, show (2 : Int) > 0 by decide, if_true]
        omega
      · cases h
  · cases h
def rg3 (ds : List PyData) : Option (List PyData) := match ds with
  | [.int i, .int j, .int c] => (rg3n i j c).map fun n => rngC i c n
  | _ => none
theorem walks_rngC {K : PySem.W.Frag} {H1 : Hp} (lo c : Int) (n : Nat) : Walks K (Itc lo c n) H1 (rngC lo c n) := fun H1' H' s1 s2 i => by
  refine ⟨fun d e => ?_, fun l => by rw [rngC_len] at l; exact l⟩
  have hl : i < n := by
    have := (List.getElem?_eq_some_iff.mp e).1
    rwa [rngC_len] at this
  unfold rngC at e
  rw [List.getElem?_map, List.getElem?_range hl] at e
  cases e
  refine ⟨hl, fun x H'' y => ?_⟩
  obtain ⟨rfl, rfl⟩ := y
  exact ⟨H1', .refl s2, .int _⟩
section
variable {X : Cx} {a b c e : Expr} {es : List Expr} {fa fb fc f : En → Option PyData} {fs : En → Option (List PyData)} {pos p : Pos} {x : Str} {tg : Expr} {tf : En → Option Bool}
theorem den_ints3 {K : PySem.W.Frag} {H : Hp} {vs : List V} {i j c : Int} (h : DenL K H vs [.int i, .int j, .int c]) : vs = [.int i, .int j, .int c] := by
  have e := DenL.ints_of (ns := [i, j, c]) h
  exact e
theorem di_range3 (ha : DA X [a, b, c] fs) (hg : Gl X "range") (hm : X.mg "range" = none) (hs : starEach [a, b, c] X.env = (false, eval a X.env) :: starEach [b, c] X.env := by rfl) (hpl : (backTo pos (starEach [b, c] X.env)).any (·.1) = false := by rfl) : DI X tg (.Call (.Name "range" p) [a, b, c] [] pos) (eNL rg3 fs) := by
  obtain ⟨t, pt, q⟩ := ha
  refine ⟨_, pi_range3 hg hm pt hs hpl, fun σ H1 H ρ ds R s e k => ?_⟩
  obtain ⟨es, e1, e⟩ := bind_some e
  refine q σ H1 H ρ es _ s e1 fun vs H1' H' x dv => ?_
  unfold rg3 at e
  split at e
  · rename_i i j c
    obtain ⟨n, e2, rfl⟩ := map_some e
    obtain ⟨r1, r2⟩ := rg3n_ok e2
    exact ⟨i, j, c, n, den_ints3 dv, r1, k _ H1' H' x (by rw [rngC_len, sizeLine_eq]; omega) (walks_rngC i c n)⟩
  · cases e

/-! ### tuple(range(a, b, c)) -/
theorem vals_rgC {lo c : Int} {n : Nat} {acc : Array Value} (h : ItemsOf (fun i v => ∃ t, v = .int (lo + i * c) t) acc n) : Vals ((List.range n).map fun i => V.int (lo + (i : Nat) * c)) acc.toList := by
  have e : acc.toList.length = n := by rw [Array.length_toList]; exact h.1
  rw [← e]
  refine vals_of_get acc.toList _ fun j u hj => ?_
  obtain ⟨t, rfl⟩ := h.2 j u (by rw [← hj, Array.getElem?_toList])
  exact ⟨t, rfl⟩
theorem den_rgC {K : PySem.W.Frag} {H : Hp} (lo c : Int) (n : Nat) : DenL K H ((List.range n).map fun i => V.int (lo + (i : Nat) * c)) (rngC lo c n) := by
  unfold rngC
  generalize List.range n = l
  induction l with
  | nil => exact .nil
  | cons i l ih => exact .cons (.int _) ih
def tTupRg3 (ta : TA) : TE := fun σ H Q => ta σ H fun vs H1 => ∃ (i j c : Int) (n : Nat), vs = [.int i, .int j, .int c] ∧ RgC i j c n ∧ n ≤ 2 ^ 24 ∧ ∀ q, H1 q = none → Q (.ref q) (upd H1 q (.tup ((List.range n).map fun i' => V.int (i + (i' : Nat) * c))))
theorem pe_tupRg3 {ta : TA} {p1 p2 : Pos} (hc : X.calm = true) (hg : Gl X "tuple") (hm : X.mg "tuple" = none) (hg2 : Gl X "range") (hm2 : X.mg "range" = none) (ha : PA X [a, b, c] ta)
    (hs : starEach [a, b, c] X.env = (false, eval a X.env) :: starEach [b, c] X.env) (hpl : (backTo p2 (starEach [b, c] X.env)).any (·.1) = false)
    (na : starEach [.Call (.Name "range" p1) [a, b, c] [] p2] X.env = (false, eval (.Call (.Name "range" p1) [a, b, c] [] p2) X.env) :: starEach [] X.env) : PE X (.Call (.Name "tuple" p) [.Call (.Name "range" p1) [a, b, c] [] p2] [] pos) (tTupRg3 ta) := by
  refine ⟨fun pins s σ H Q I h => ?_⟩
  refine Call_ (ld_blt I hg hm boot_tuple (PyProof.Rows.callWith_type1 (args_cons ?_ na) na))
  refine Call_ (ld_blt I hg2 hm2 boot_range (PyProof.Rows.callWith_type1 (thn (ha.run p2 pins s σ H _ I h) fun us s1 ⟨vs, H1, I1, r1, q1⟩ => ?_) hs hpl))
  obtain ⟨i, j, k, n, e, ⟨c0, c1, c2, c3⟩, hn, q⟩ := q1
  subst e
  cases r1 with
  | cons r rr =>
    cases rr with
    | cons r' rr =>
      cases rr with
      | cons r'' rr =>
        cases rr
        obtain ⟨t, rfl⟩ := r
        obtain ⟨t', rfl⟩ := r'
        obtain ⟨t'', rfl⟩ := r''
        refine call_range_3 c0 (args_nil ?_) (.inl (PyProof.noPylong_small c1))
        have I2 : L2.Inv X pins σ H1 { s1 with heap := s1.heap.push { cls := .type "range", data := .fields #[.int i t, .int j t', .int k t''] } } := I1.kept (t' := s1.toks) fun b o e => Heap.get?_push_of_some _ e
        refine call_tuple_range (n := n) (I2.ok.hd hc) (IsRange.new ..) c2 c3 hn fun h' tk acc hk hi => ?_
        have I3 : L2.Inv X pins σ H1 { s1 with heap := h', toks := tk } := I2.kept hk
        refine ⟨.ref h'.objs.size, _, I3.laid (t' := tk) (fun c o e => Heap.get?_push_of_some _ e) (Nat.le_refl _) (show ObjOk X.prog X.w _ _ _ (.tup ((List.range n).map fun i' => V.int (i + (i' : Nat) * k))) from ⟨?_, acc.toList, vals_rgC hi, ?_⟩), rfl, q _ (I3.hok.fresh (Nat.le_refl _))⟩
        · rw [List.length_map, List.length_range, sizeLine_eq]; omega
        · rw [Array.toArray_toList]; exact IsTup.new _ _
def rg3T (ds : List PyData) : Option PyData := (rg3 ds).map PyData.tuple
theorem de_tupRg3 {p1 p2 : Pos} (hc : X.calm = true) (hg : Gl X "tuple") (hm : X.mg "tuple" = none) (hg2 : Gl X "range") (hm2 : X.mg "range" = none) (ha : DA X [a, b, c] fs)
    (hs : starEach [a, b, c] X.env = (false, eval a X.env) :: starEach [b, c] X.env := by rfl) (hpl : (backTo p2 (starEach [b, c] X.env)).any (·.1) = false := by rfl)
    (na : starEach [.Call (.Name "range" p1) [a, b, c] [] p2] X.env = (false, eval (.Call (.Name "range" p1) [a, b, c] [] p2) X.env) :: starEach [] X.env := by rfl) : DE X (.Call (.Name "tuple" p) [.Call (.Name "range" p1) [a, b, c] [] p2] [] pos) (eN rg3T fs) := by
  obtain ⟨t, pt, q⟩ := ha
  refine ⟨_, pe_tupRg3 hc hg hm hg2 hm2 pt hs hpl na, fun σ H1 H ρ d Q s h k => ?_⟩
  obtain ⟨es, e1, h⟩ := bind_some h
  refine q σ H1 H ρ es _ s e1 fun vs H1' H' x dv => ?_
  unfold rg3T at h
  obtain ⟨rs, hz, rfl⟩ := map_some h
  clear h
  unfold rg3 at hz
  split at hz
  · rename_i i j c
    obtain ⟨n, e2, e3⟩ := map_some hz
    subst e3
    obtain ⟨r1, r2⟩ := rg3n_ok e2
    exact ⟨i, j, c, n, den_ints3 dv, r1, r2, fun p n => k _ _ _ (x.trans (.new x.sub n)) (.tup (.of upd_same) (by rw [rngC_len, sizeLine_eq]; omega) (den_rgC _ _ _))⟩
  · cases hz
end

/-! ### min, max, sum of a list or a tuple of ints -/
section
variable {prog : Program} {w : World} {A : Around} {E : Value → Shared → Prop} {s : Shared} {t : Addr} {its : List Value} {ns : List Int} {Q : Value → Shared → Prop}
theorem min_tupRaw (hh : A.handled = none) (ht : s.heap.IsTuple t its.toArray) (hi : IntsAre its ns) (hne : 0 < ns.length)
    (h : ∀ h' tk M t', (∀ b o, s.heap.get? b = some o → h'.get? b = some o) → M ∈ ns → (∀ a, a ∈ ns → M ≤ a) → Q (.int M t') { s with heap := h', toks := tk }) : wpAny (model prog w) A (call (.builtin "min") [.ref t]) Q E s := by
  obtain ⟨xs, e⟩ := hi.allInts.items
  have hn : numsOf (intItems xs).toList = ns := by rw [← e]; exact hi.numsOf
  rw [nums_intItems] at hn
  subst hn
  rw [e] at ht
  have hsz : 0 < xs.size := by simpa using hne
  obtain ⟨o, ho, hc, n, hd⟩ := id ht
  have hne' : t ≠ s.heap.objs.size := Nat.ne_of_lt (Heap.lt_size ho)
  refine call_min_walk (wpAny_pyIter_tuple ht ?_)
  refine ⟨s.heap.objs.size, [_, t], [_], _, _, _, _, rfl, PySem.Walks.tuple (A := A.in1) hh _ t hne' (intItems xs), ⟨⟨_, Heap.get?_push_size _ rfl, rfl, rfl⟩, ht.at fun o e => Heap.get?_push_of_some _ e⟩, fun b hb => ?_, by simpa [intItems] using hsz, CmpOf.ints_lt (numAt xs) (fun _ _ => intItems_at), fun v h' tk hv hk => ?_⟩
  · rcases List.mem_cons.mp hb with rfl | hb
    · exact Heap.lt_size (Heap.get?_push_size _ rfl)
    · obtain rfl := List.mem_singleton.mp hb
      exact Heap.lt_size (Heap.get?_push_of_some _ ho)
  · have hv : (intItems xs)[argBest (fun i j => decide (numAt xs i < numAt xs j)) (xs.size - 1)]? = some v := by simpa [intItems] using hv
    obtain ⟨t, rfl⟩ := intItems_at hv
    obtain ⟨h1, h2⟩ := argBest_lt (numAt xs) (xs.size - 1)
    refine h h' tk _ t (fun b o e => hk b o (fun hb => absurd (Heap.lt_size e) ((List.mem_singleton.mp hb) ▸ Nat.lt_irrefl _)) (Heap.get?_push_of_some _ e)) ?_ fun a ha => ?_
    · rw [numAt_eq]; exact PySem.getD_mem (by rw [List.length_map, Array.length_toList]; omega)
    · obtain ⟨j, hj, rfl⟩ := mem_getD ha
      rw [List.length_map, Array.length_toList] at hj
      rw [← numAt_eq]; exact h2 j (by omega)
theorem max_tupRaw (hh : A.handled = none) (ht : s.heap.IsTuple t its.toArray) (hi : IntsAre its ns) (hne : 0 < ns.length)
    (h : ∀ h' tk M t', (∀ b o, s.heap.get? b = some o → h'.get? b = some o) → M ∈ ns → (∀ a, a ∈ ns → a ≤ M) → Q (.int M t') { s with heap := h', toks := tk }) : wpAny (model prog w) A (call (.builtin "max") [.ref t]) Q E s := by
  obtain ⟨xs, e⟩ := hi.allInts.items
  have hn : numsOf (intItems xs).toList = ns := by rw [← e]; exact hi.numsOf
  rw [nums_intItems] at hn
  subst hn
  rw [e] at ht
  have hsz : 0 < xs.size := by simpa using hne
  obtain ⟨o, ho, hc, n, hd⟩ := id ht
  have hne' : t ≠ s.heap.objs.size := Nat.ne_of_lt (Heap.lt_size ho)
  refine call_max_walk (wpAny_pyIter_tuple ht ?_)
  refine ⟨s.heap.objs.size, [_, t], [_], _, _, _, _, rfl, PySem.Walks.tuple (A := A.in1) hh _ t hne' (intItems xs), ⟨⟨_, Heap.get?_push_size _ rfl, rfl, rfl⟩, ht.at fun o e => Heap.get?_push_of_some _ e⟩, fun b hb => ?_, by simpa [intItems] using hsz, CmpOf.ints_gt (numAt xs) (fun _ _ => intItems_at), fun v h' tk hv hk => ?_⟩
  · rcases List.mem_cons.mp hb with rfl | hb
    · exact Heap.lt_size (Heap.get?_push_size _ rfl)
    · obtain rfl := List.mem_singleton.mp hb
      exact Heap.lt_size (Heap.get?_push_of_some _ ho)
  · have hv : (intItems xs)[argBest (fun i j => decide (numAt xs i > numAt xs j)) (xs.size - 1)]? = some v := by simpa [intItems] using hv
    obtain ⟨t, rfl⟩ := intItems_at hv
    obtain ⟨h1, h2⟩ := argBest_gt (numAt xs) (xs.size - 1)
    refine h h' tk _ t (fun b o e => hk b o (fun hb => absurd (Heap.lt_size e) ((List.mem_singleton.mp hb) ▸ Nat.lt_irrefl _)) (Heap.get?_push_of_some _ e)) ?_ fun a ha => ?_
    · rw [numAt_eq]; exact PySem.getD_mem (by rw [List.length_map, Array.length_toList]; omega)
    · obtain ⟨j, hj, rfl⟩ := mem_getD ha
      rw [List.length_map, Array.length_toList] at hj
      rw [← numAt_eq]; exact h2 j (by omega)
end
section
variable {X : Cx}
/-- f of one list or tuple of ints -/
def rSeqI (K : PySem.W.Frag) (C : List Int → Int → Prop) : List V → Hp → VK → Prop := fun vs H Q => ∃ (a : Addr) (ns : List Int), vs = [V.ref a] ∧ (SqL K H a (ns.map V.int) ∨ SqT K H a (ns.map V.int)) ∧ 0 < ns.length ∧ ∀ m, C ns m → Q (.int m) H
theorem cr_min1 (hc : X.calm = true) : CallR X (.builtin "min") (rSeqI X.K fun ns m => m ∈ ns ∧ ∀ y, y ∈ ns → m ≤ y) := by
  intro pins s σ H vs us Q I r h
  obtain ⟨a, ns, rfl, hs | hs, hne, q⟩ := h
  · obtain ⟨its, rv, hl, _⟩ := I.list hs
    rw [Vals.ref1 r]
    exact min_raw (I.ok.hd hc) hl.isList rv.ints hne fun h' tk m t' hk h1 h2 => ⟨.int _, H, I.kept hk, ⟨_, rfl⟩, q m ⟨h1, h2⟩⟩
  · obtain ⟨its, rv, hl, _⟩ := I.tuple hs
    rw [Vals.ref1 r]
    exact min_tupRaw (I.ok.hd hc) hl rv.ints hne fun h' tk m t' hk h1 h2 => ⟨.int _, H, I.kept hk, ⟨_, rfl⟩, q m ⟨h1, h2⟩⟩
theorem cr_max1 (hc : X.calm = true) : CallR X (.builtin "max") (rSeqI X.K fun ns m => m ∈ ns ∧ ∀ y, y ∈ ns → y ≤ m) := by
  intro pins s σ H vs us Q I r h
  obtain ⟨a, ns, rfl, hs | hs, hne, q⟩ := h
  · obtain ⟨its, rv, hl, _⟩ := I.list hs
    rw [Vals.ref1 r]
    exact max_raw (I.ok.hd hc) hl.isList rv.ints hne fun h' tk m t' hk h1 h2 => ⟨.int _, H, I.kept hk, ⟨_, rfl⟩, q m ⟨h1, h2⟩⟩
  · obtain ⟨its, rv, hl, _⟩ := I.tuple hs
    rw [Vals.ref1 r]
    exact max_tupRaw (I.ok.hd hc) hl rv.ints hne fun h' tk m t' hk h1 h2 => ⟨.int _, H, I.kept hk, ⟨_, rfl⟩, q m ⟨h1, h2⟩⟩
def rSumA (K : PySem.W.Frag) : List V → Hp → VK → Prop := fun vs H Q => ∃ (a : Addr) (ns : List Int), vs = [V.ref a] ∧ (SqL K H a (ns.map V.int) ∨ SqT K H a (ns.map V.int)) ∧ Q (.int ns.sum) H
theorem cr_sumD (hc : X.calm = true) : CallR X (.builtin "sum") (rSumA X.K) := by
  intro pins s σ H vs us Q I r h
  obtain ⟨a, ns, rfl, hs | hs, q⟩ := h
  · obtain ⟨its, rv, hl, _⟩ := I.list hs
    rw [Vals.ref1 r]
    exact sum_raw (I.ok.hd hc) hl.isList rv.ints fun h' tk t' hk => ⟨.int _, H, I.kept hk, ⟨_, rfl⟩, q⟩
  · obtain ⟨its, rv, hl, _⟩ := I.tuple hs
    rw [Vals.ref1 r]
    have hi := rv.ints
    obtain ⟨xs, hx⟩ := hi.allInts.items
    have hn : numsOf its.toArray.toList = ns := by rw [show its.toArray.toList = its from rfl, hi.numsOf]
    have hl' : s.heap.IsTuple a its.toArray := hl
    have hx' : its.toArray = intItems xs := hx
    rw [hx'] at hl' hn
    rw [nums_intItems] at hn
    refine PySem.W.ktm_sumG (I.ok.hd hc) hl' fun h' tk t' hk => ?_
    rw [preSum_eq, List.take_of_length_le (by simp), hn]
    exact ⟨.int _, H, I.kept hk, ⟨_, rfl⟩, q⟩

theorem seqI_vals {K : PySem.W.Frag} {H1 H : Hp} {x : V} {ds : List PyData} {ns : List Int} (sm : Same H1 H) (h : intsD ds = some ns) (hx : Den K H1 x (.list ds) ∨ Den K H1 x (.tuple ds)) : ∃ a, x = .ref a ∧ (SqL K H a (ns.map V.int) ∨ SqT K H a (ns.map V.int)) := by
  rcases hx with hx | hx
  · cases hx with
    | lst hs hl dl =>
      rw [intsD_vals h dl] at hs
      exact ⟨_, rfl, .inl (sm.seq hs)⟩
  · cases hx with
    | tup hs hl dl =>
      rw [intsD_vals h dl] at hs
      exact ⟨_, rfl, .inr (sqT_mono sm hs)⟩
def minL : List Int → Int
  | [] => 0
  | [n] => n
  | n :: m :: ns => min n (minL (m :: ns))
def maxL : List Int → Int
  | [] => 0
  | [n] => n
  | n :: m :: ns => max n (maxL (m :: ns))
theorem minL_mem : ∀ {ns : List Int}, ns ≠ [] → minL ns ∈ ns
  | [], h => absurd rfl h
  | [n], _ => by simp [minL]
  | n :: m :: ns, _ => by
    have := minL_mem (ns := m :: ns) (by simp)
    show min n (minL (m :: ns)) ∈ _
    by_cases h : n ≤ minL (m :: ns)
    · rw [Int.min_eq_left h]; exact List.mem_cons_self
    · rw [Int.min_eq_right (by omega)]; exact List.mem_cons_of_mem _ this
theorem minL_le : ∀ {ns : List Int} {y : Int}, y ∈ ns → minL ns ≤ y
  | [], _, h => by simp at h
  | [n], y, h => by
    have : y = n := by simpa using h
    subst this
    exact Int.le_refl _
  | n :: m :: ns, y, h => by
    show min n (minL (m :: ns)) ≤ y
    rcases List.mem_cons.mp h with rfl | h
    · exact Int.min_le_left _ _
    · exact Int.le_trans (Int.min_le_right _ _) (minL_le h)
theorem maxL_mem : ∀ {ns : List Int}, ns ≠ [] → maxL ns ∈ ns
  | [], h => absurd rfl h
  | [n], _ => by simp [maxL]
  | n :: m :: ns, _ => by
    have := maxL_mem (ns := m :: ns) (by simp)
    show max n (maxL (m :: ns)) ∈ _
    by_cases h : maxL (m :: ns) ≤ n
    · rw [Int.max_eq_left h]; exact List.mem_cons_self
    · rw [Int.max_eq_right (by omega)]; exact List.mem_cons_of_mem _ this
theorem maxL_le : ∀ {ns : List Int} {y : Int}, y ∈ ns → y ≤ maxL ns
  | [], _, h => by simp at h
  | [n], y, h => by
    have : y = n := by simpa using h
    subst this
    exact Int.le_refl _
  | n :: m :: ns, y, h => by
    show y ≤ max n (maxL (m :: ns))
    rcases List.mem_cons.mp h with rfl | h
    · exact Int.le_max_left _ _
    · exact Int.le_trans (maxL_le h) (Int.le_max_right _ _)
def seqI : List PyData → Option (List Int)
  | [.list ds] => intsD ds
  | [.tuple ds] => intsD ds
  | _ => none
def minD1 (ds : List PyData) : Option PyData := (seqI ds).bind fun ns => if 0 < ns.length then some (.int (minL ns)) else none
def maxD1 (ds : List PyData) : Option PyData := (seqI ds).bind fun ns => if 0 < ns.length then some (.int (maxL ns)) else none
def sumD (ds : List PyData) : Option PyData := (seqI ds).map fun ns => .int ns.sum
theorem seqI_den {K : PySem.W.Frag} {H1 H : Hp} {xs : List V} {ds : List PyData} {ns : List Int} (sm : Same H1 H) (h : seqI ds = some ns) (hx : DenL K H1 xs ds) : ∃ a, xs = [.ref a] ∧ (SqL K H a (ns.map V.int) ∨ SqT K H a (ns.map V.int)) := by
  unfold seqI at h
  split at h
  · cases hx with
    | cons d1 d2 =>
      cases d2
      obtain ⟨a, rfl, q⟩ := seqI_vals sm h (.inl d1)
      exact ⟨a, rfl, q⟩
  · cases hx with
    | cons d1 d2 =>
      cases d2
      obtain ⟨a, rfl, q⟩ := seqI_vals sm h (.inr d1)
      exact ⟨a, rfl, q⟩
  · cases h
theorem v_min1 {K : PySem.W.Frag} : VN K (rSeqI K fun ns m => m ∈ ns ∧ ∀ y, y ∈ ns → m ≤ y) minD1 := by
  intro xs ds c H1 H Q sm dx h k
  obtain ⟨ns, h1, h⟩ := bind_some h
  obtain ⟨hp, rfl⟩ := of_if h
  obtain ⟨a, rfl, q⟩ := seqI_den sm h1 dx
  refine ⟨a, ns, rfl, q, hp, fun m ⟨m1, m2⟩ => ?_⟩
  have e : m = minL ns := Int.le_antisymm (m2 _ (minL_mem (by intro e; subst e; simp at hp))) (minL_le m1)
  subst e
  exact k _ H1 H (.refl sm) (.int _)
theorem v_max1 {K : PySem.W.Frag} : VN K (rSeqI K fun ns m => m ∈ ns ∧ ∀ y, y ∈ ns → y ≤ m) maxD1 := by
  intro xs ds c H1 H Q sm dx h k
  obtain ⟨ns, h1, h⟩ := bind_some h
  obtain ⟨hp, rfl⟩ := of_if h
  obtain ⟨a, rfl, q⟩ := seqI_den sm h1 dx
  refine ⟨a, ns, rfl, q, hp, fun m ⟨m1, m2⟩ => ?_⟩
  have e : m = maxL ns := Int.le_antisymm (maxL_le m1) (m2 _ (maxL_mem (by intro e; subst e; simp at hp)))
  subst e
  exact k _ H1 H (.refl sm) (.int _)
theorem v_sum {K : PySem.W.Frag} : VN K (rSumA K) sumD := by
  intro xs ds c H1 H Q sm dx h k
  obtain ⟨ns, h1, rfl⟩ := map_some h
  obtain ⟨a, rfl, q⟩ := seqI_den sm h1 dx
  exact ⟨a, ns, rfl, q, k _ H1 H (.refl sm) (.int _)⟩
end

/-! ### sorted of a list or a tuple of ints -/
section
variable {prog : Program} {w : World} {A : Around} {E : Value → Shared → Prop} {s : Shared}
theorem collect_tup {l : Addr} {vs : List Value} {Q : List Value → Shared → Prop} (hl : s.heap.IsTuple l vs.toArray)
    (h : Q vs { s with heap := (s.heap.push (seqObj "list" #[] 0)).update s.heap.objs.size (Obj.mapSeq (· ++ vs.toArray)) }) (hsz : vs.length ≤ sizeLine) :
    wpAny (model prog w) A (collect (.ref l)) Q E s := by
  obtain ⟨o, ho, hc, n, hd⟩ := id hl
  unfold collect
  refine wpAny_bind (wpAny_runValue (codeAny_builtin entry_proto_collect' ?_))
  show wpAny _ _ (do again (.builtin "list.__iadd__" ⟨[← newList [], .ref l], []⟩)) _ _ s
  refine wpAny_bind (wpAny_newList (wpAny_pure ⟨Code.quiet_builtin _ (by decide +kernel), codeAny_builtin entry_list_iadd' ?_⟩))
  show wpAny _ _ (Builtin.List.listExtendWith (.ref s.heap.objs.size) (.ref l) (.ref s.heap.objs.size)) _ _ { s with heap := s.heap.push (seqObj "list" #[] 0) }
  unfold Builtin.List.listExtendWith
  have ho' : (s.heap.push (seqObj "list" #[] 0)).get? l = some o := Heap.get?_push_of_some _ ho
  refine wpAny_bind (wpAny_typeOf (T := "tuple") ⟨o, ho', hc⟩ ?_)
  have ht : (Value.type "tuple" == Value.type "tuple") = true := by rfl
  rw [if_pos (by rw [ht]; simp)]
  refine wpAny_bind (listItems_at ho' hd ?_)
  refine wpAny_bind (listItems_at (xs := #[]) (n := 0) (Heap.get?_push_size _ rfl) rfl ?_)
  rw [if_neg (by simp)]
  refine wpAny_bind (listUpdate_at (xs := #[]) (n := 0) (Heap.get?_push_size _ rfl) rfl ?_ (Nat.zero_le _) (by show (#[] ++ vs.toArray).size ≤ sizeLine + 1; simp only [Array.size_append, List.size_toArray, List.length_nil]; omega))
  refine wpAny_pure ?_
  show wpAny (model prog w) A (do
      let o ← load s.heap.objs.size
      match o.data with
      | .seq xs _ => pure xs.toList
      | _ => unsupported "internal:collect") Q E { s with heap := (s.heap.push (seqObj "list" #[] 0)).update s.heap.objs.size (Obj.mapSeq (· ++ vs.toArray)) }
  refine wpAny_bind (wpAny_load (get?_update_seq (Heap.get?_push_size _ rfl) _) ?_)
  show wpAny _ _ (pure ((#[] : Array Value) ++ vs.toArray).toList) Q E _
  rw [show ((#[] : Array Value) ++ vs.toArray).toList = vs by simp]
  exact wpAny_pure h
theorem sorted_ordT {l : Addr} {vs : List Value} {ltv : Value → Value → Bool} {Q : Value → Shared → Prop} (O : SrtO.Swo ltv) (hl : s.heap.IsTuple l vs.toArray) (hz : vs.length ≤ sizeLine)
    (hS : 2 ≤ vs.length → ∀ (h₁ : Heap) (a : Addr), h₁.get? a = some (seqObj "list" vs.toArray 0) → (∀ b o, s.heap.get? b = some o → b ≠ a ∧ h₁.get? b = some o) → SrtO.SortableO prog w A.in1.in1 { s with heap := h₁ } a vs ltv)
    (h : ∀ out : List Value, SrtO.Srtd ltv out → SrtO.Stb ltv out vs → Q (.ref (s.heap.objs.size + 1)) { s with heap := sortedAll s.heap vs out.toArray }) :
    wpAny (model prog w) A (call (.builtin "sorted") [.ref l]) Q E s := by
  refine Calls.call_function_entry kind_sorted plain_sorted entry_sorted (args_sorted1 _) ?_
  unfold Builtin.«sorted»
  refine wpAny_bind (m := checkCount "sorted" 1 1 _) (wpAny_pure ?_)
  refine wpAny_bind (collect_tup hl ?_ hz)
  refine wpAny_bind (wpAny_newList ?_ hz)
  have hsz : ((s.heap.push (seqObj "list" #[] 0)).update s.heap.objs.size (Obj.mapSeq (· ++ vs.toArray))).objs.size = s.heap.objs.size + 1 := by
    rw [Heap.size_update, size_push']
  have hoL : (((s.heap.push (seqObj "list" #[] 0)).update s.heap.objs.size (Obj.mapSeq (· ++ vs.toArray))).push (seqObj "list" vs.toArray 0)).get? (s.heap.objs.size + 1) = some (seqObj "list" vs.toArray 0) := by
    rw [← hsz]; exact Heap.get?_push_size _ rfl
  have keep : ∀ b o, s.heap.get? b = some o → b ≠ s.heap.objs.size + 1 ∧ (((s.heap.push (seqObj "list" #[] 0)).update s.heap.objs.size (Obj.mapSeq (· ++ vs.toArray))).push (seqObj "list" vs.toArray 0)).get? b = some o := fun b o q => by
    have hlt : b < s.heap.objs.size := Heap.lt_size q
    refine ⟨Nat.ne_of_lt (Nat.lt_succ_of_lt hlt), Heap.get?_push_of_some _ ?_⟩
    rw [Heap.get?_update_ne _ _ _ _ (Nat.ne_of_lt hlt)]
    exact Heap.get?_push_of_some _ q
  show wpAny _ _ _ _ _ { s with heap := ((s.heap.push (seqObj "list" #[] 0)).update s.heap.objs.size (Obj.mapSeq (· ++ vs.toArray))).push (seqObj "list" vs.toArray 0) }
  rw [hsz]
  refine wpAny_bind (wpAny_holding (wpAny_call_entry slot_list_sort ⟨_, hoL, rfl⟩ entry_list_sort (SrtO.list_sort_ord O hoL hz (fun h2 => hS h2 _ _ hoL keep) fun out hs hb => ⟨_, rfl, ?_⟩) (args_list_sort _)))
  exact wpAny_pure ⟨_, rfl, h out hs hb⟩
end
def srt (ns : List Int) : List Int := ns.mergeSort fun a b => decide (a ≤ b)
theorem srt_perm (ns : List Int) : (srt ns).Perm ns := List.mergeSort_perm _ _
theorem srt_pw (ns : List Int) : (srt ns).Pairwise (· ≤ ·) := by
  have h := List.pairwise_mergeSort (le := fun a b : Int => decide (a ≤ b)) (fun a b c h1 h2 => by simp only [decide_eq_true_eq] at *; omega) (fun a b => by simp only [Bool.or_eq_true, decide_eq_true_eq]; omega) ns
  exact h.imp fun h => by simpa using h
theorem srt_eq {ns ms : List Int} (hp : ms.Perm ns) (hs : ms.Pairwise (· ≤ ·)) : ms = srt ns :=
  List.Perm.eq_of_pairwise (fun a b _ _ h1 h2 => Int.le_antisymm h1 h2) hs (srt_pw ns) (hp.trans (srt_perm ns).symm)
section
variable {X : Cx}
def rSortA (K : PySem.W.Frag) : List V → Hp → VK → Prop := fun vs H Q => ∃ (a : Addr) (ns : List Int), vs = [V.ref a] ∧ (SqL K H a (ns.map V.int) ∨ SqT K H a (ns.map V.int)) ∧
  ∀ (p : Addr), H p = none → Q (.ref p) (upd H p (.lst ((srt ns).map V.int)))
theorem cr_sortedD : CallR X (.builtin "sorted") (rSortA X.K) := by
  intro pins s σ H vs us Q I r h
  obtain ⟨a, ns, rfl, hs | hs, q⟩ := h
  · exact cr_sortedI pins s σ H _ us Q I r ⟨a, ns, rfl, hs, fun ns' p k1 k2 hn => by rw [srt_eq k1 k2]; exact q p hn⟩
  · obtain ⟨its, rv, hl, hz⟩ := I.tuple hs
    rw [Vals.ref1 r]
    have hi := rv.ints
    refine sorted_ordT SrtO.swo_int hl (by rw [← rv.length]; exact hz) (fun h2 h₁ a' _ _ => SrtO.ints_sortable hi h2) fun out h1 h2 => ?_
    obtain ⟨k1, k2, k3⟩ := SrtO.ints_out hi h1 h2
    obtain ⟨ep, he'⟩ := PyProof.Rows.sortedAll_at s.heap its out.toArray
    have hlen : ((out.map SrtO.iv).map V.int).length ≤ sizeLine := by
      rw [List.length_map, k2.length_eq]
      rw [List.length_map] at hz
      exact hz
    have qq := q (s.heap.objs.size + 1) (I.hok.fresh (Nat.le_succ _))
    rw [← srt_eq k2 k3] at qq
    exact ⟨.ref _, upd H (s.heap.objs.size + 1) (.lst ((out.map SrtO.iv).map V.int)), I.laid (t' := s.toks) (fun _ _ => PyProof.Rows.sortedAll_old) (Nat.le_succ _) ⟨hlen, out, ep, vals_of_ints k1, he'⟩, rfl, qq⟩
theorem seqI_len {K : PySem.W.Frag} {H1 : Hp} {xs : List V} {ds : List PyData} {ns : List Int} (h : seqI ds = some ns) (hx : DenL K H1 xs ds) : ns.length ≤ sizeLine := by
  unfold seqI at h
  split at h
  · cases hx with
    | cons d1 d2 =>
      cases d1 with
      | lst hs hl dl =>
        have e := dl.length
        rw [intsD_vals h dl, List.length_map] at e
        omega
  · cases hx with
    | cons d1 d2 =>
      cases d1 with
      | tup hs hl dl =>
        have e := dl.length
        rw [intsD_vals h dl, List.length_map] at e
        omega
  · cases h
def sortedD (ds : List PyData) : Option (List PyData) := (seqI ds).map fun ns => (srt ns).map PyData.int
theorem v_sorted {K : PySem.W.Frag} : VNL K (rSortA K) sortedD := by
  intro xs ds cs H1 H Q sm dx h k
  obtain ⟨ns, h1, rfl⟩ := map_some h
  obtain ⟨a, rfl, q⟩ := seqI_den sm h1 dx
  refine ⟨a, ns, rfl, q, fun p n => k p _ H1 _ (.newMut sm n) n upd_same (sm.free n) ?_ (DenL.ints _)⟩
  rw [List.length_map, (srt_perm ns).length_eq]
  exact seqI_len h1 dx
end

/-! ### enumerate of a list, of a tuple -/
section
theorem meets_enumerate_newB1 {v : Value} {o : Obj} {H : Heap → Prop} (B : Begins v o H) :
    Meets (Builtin.«enumerate.__new__» ⟨[.type "enumerate", v], []⟩) (fun _ R s => H s.heap ∧
      R (.ok (.ret (.ref (s.heap.push o).objs.size))) { s with heap := (s.heap.push o).push { cls := .type "enumerate", data := .fields #[.none, .bool false, .ref s.heap.objs.size, rawInt 0, .none, .none] } }) :=
  .of_wp fun prog w A R s h => by
    obtain ⟨hp, g, d, tk, os⟩ := s; obtain ⟨h1, h⟩ := h
    have hsub := sub_enumerate
    have q1 : ∀ {A' : Around} {E : Value → Shared → Prop} {Q : Value → Shared → Prop}, Q (.ref hp.objs.size) ⟨hp.push o, g, d, tk, os⟩ → wpAny (model prog w) A' (pyIter v) Q E ⟨hp, g, d, tk, os⟩ :=
      fun q => B.iter prog w _ _ ⟨hp, g, d, tk, os⟩ _ h1 q
    wp_walk using q1
    refine wpAny_stack_any fun st => wpAny_pure ?_
    split
    · rename_i c _ _ _ _ _
      cases (c == Value.type "enumerate")
      · wp_walk using q1
        exact ⟨_, rfl, h⟩
      · wp_walk using q1
        exact ⟨_, rfl, h⟩
    · wp_walk using q1
      exact ⟨_, rfl, h⟩
variable {prog : Program} {w : World} {A : Around} {E : Value → Shared → Prop} {s : Shared}
theorem enum_begins1 {v : Value} {o : Obj} {H : Heap → Prop} {Q : Value → Shared → Prop} (B : Begins v o H) (h1 : H s.heap)
    (h : ∀ h', IsEnum h' (s.heap.objs.size + 1) s.heap.objs.size 0 .none → h'.get? s.heap.objs.size = some o → h'.objs.size = s.heap.objs.size + 2 →
      (∀ b o, s.heap.get? b = some o → h'.get? b = some o) → Q (.ref (s.heap.objs.size + 1)) { s with heap := h' }) :
    wpAny (model prog w) A (call (.type "enumerate") [v]) Q E s := by
  refine callType_new F.called_enumerate (by decide) (F.typeCall_enumerate_1 _) (F.newCall_enumerate_1 _) (fun obj => F.args_object_init_2 obj _) F.entry_enumerate_new
    (meets_enumerate_newB1 B) ⟨h1, ?_⟩
  have hz : (s.heap.push o).objs.size = s.heap.objs.size + 1 := Heap.size_push ..
  show _ ∧ _
  rw [hz]
  have he : IsEnum ((s.heap.push o).push { cls := .type "enumerate", data := .fields #[.none, .bool false, .ref s.heap.objs.size, rawInt 0, .none, .none] }) (s.heap.objs.size + 1) s.heap.objs.size 0 .none := by
    have := Heap.get?_push_size (s.heap.push o) (o := { cls := .type "enumerate", data := .fields #[.none, .bool false, .ref s.heap.objs.size, rawInt 0, .none, .none] }) rfl
    rw [hz] at this; exact this
  refine ⟨⟨_, he, rfl⟩, h _ he (Heap.get?_push_of_some _ (Heap.get?_push_size _ B.free)) (by rw [Heap.size_push, hz]) fun b o x => Heap.get?_push_of_some _ (Heap.get?_push_of_some _ x)⟩
end
/-- enumerate of the tuple at a -/
def Iten (K : PySem.W.Frag) (a : Addr) : It :=
  ⟨fun i H => ∃ (xs : List V) (x : V), SqT K H a xs ∧ xs[i]? = some x, fun i H v H' => ∃ T x, v = .ref T ∧ H T = none ∧ H' = upd H T (.tup [.int (i : Nat), x]) ∧ ∀ xs, SqT K H a xs → xs[i]? = some x, fun i H => ∃ xs : List V, SqT K H a xs ∧ xs.length ≤ i⟩
theorem turn_enumT {P : Program} {w : World} {K : PySem.W.Frag} {elts : List Expr} {kk : Nat} {tpos : Pos} (a e it : Addr) :
    Turn P w K (.Tuple elts kk tpos) (Iten K a) [e, it] e (fun i h => (∃ old, IsEnum h e it ((i : Nat) : Int) old) ∧ h.IsTupleIter it a i ∧ e ≠ it) where
  mem := by simp
  obj := fun i h st b hb => by
    obtain ⟨⟨old, he⟩, ⟨o, ho, hc, hd⟩, _⟩ := st
    have e' : b = e ∨ b = it := by simpa using hb
    rcases e' with z | z
    · rw [z]; exact ⟨_, he, fun v q => nomatch q⟩
    · rw [z]; exact ⟨o, ho, fun v q => by rw [hd] at q; cases q⟩
  keep := fun i h h' st k => let ⟨⟨old, he⟩, hi, hne⟩ := st; ⟨⟨old, k e (by simp) _ he⟩, hi.at fun o q => k it (by simp) o q, hne⟩
  item := by
    intro X hP hw hK hc i pins s σ H E I hf st hg
    subst hP hw hK
    obtain ⟨⟨old, he⟩, hit, hne⟩ := st
    obtain ⟨xs, x, hq, hx⟩ := hg
    obtain ⟨its, rv, p, hz⟩ := I.tuple hq
    obtain ⟨u, hu, ru⟩ := rv.get hx
    have hp : s.heap.IsTuple a its.toArray := p
    have hel : e < s.heap.objs.size := Heap.lt_size he
    have hil : it < s.heap.objs.size := by obtain ⟨_, q, _⟩ := hit; exact Heap.lt_size q
    have hea : e ≠ a := fun z => by
      obtain ⟨o, ho, hc, _⟩ := hp
      rw [← z, he] at ho
      cases ho
      exact absurd (show Value.type "enumerate" = Value.type "tuple" from hc) (by decide)
    have hia : a ≠ it := fun z => by
      obtain ⟨o, ho, hc, _⟩ := hp
      obtain ⟨o2, ho2, hc2, _⟩ := hit
      rw [z, ho2] at ho
      cases ho
      rw [hc2] at hc
      exact absurd hc (by decide)
    have D := Draws.tuple (prog := X.prog) (w := X.w) (A := X.A.in1) (I.ok.hd hc) it a hia its.toArray
    have hlt : i < its.toArray.size := by
      rw [List.size_toArray]
      exact (List.getElem?_eq_some_iff.mp hu).1
    refine wpAny_pyNext_enum_itemD D he ⟨hit, hp⟩ hlt hne (by simp [hne, hea]) fun x' h' tk hx' ho hit' hT hsz hk => ?_
    obtain ⟨hit', _⟩ := hit'
    have ex : x' = u := by
      rw [List.getElem?_toArray, hu] at hx'
      cases hx'
      rfl
    subst ex
    refine ⟨_, rfl, wpAny_letOwnedTupleGo_enum (s := { s with heap := h', toks := tk + 1 }) ho fun h'' he' sb => ?_⟩
    have hT2 : h''.get? s.heap.objs.size = some { cls := .type "tuple", data := .seq #[.int i tk, x'] } := (sb.2 _ (Nat.ne_of_gt hel)).trans hT
    have new : ObjOk X.prog X.w (upd H s.heap.objs.size (.tup [.int (i : Nat), x])) h'' s.heap.objs.size (.tup [.int (i : Nat), x]) :=
      ⟨by show 2 ≤ sizeLine; decide, [.int i tk, x'], .cons ⟨_, rfl⟩ (.cons ru .nil), ⟨_, hT2, rfl, _, rfl⟩⟩
    have I1 : L2.Inv X pins σ (upd H s.heap.objs.size (.tup [.int (i : Nat), x])) { s with heap := h'', toks := tk + 1 } :=
      I.turnedNew (ch := [e, it]) (fun b ob hb q => (sb.2 b (fun z => hb (by simp [z]))).trans (hk b ob (fun z => hb (by simp [z])) (fun z => hb (by simp [z])) q)) hf (Nat.le_refl _) new
    refine ⟨.ref s.heap.objs.size, _, I1, rfl, ⟨_, x, rfl, I.hok.fresh (Nat.le_refl _), rfl, fun ys hy => by rw [I.tuple_inj hy hq]; exact hx⟩, ⟨⟨x', ?_⟩, hit'.at fun o q => (sb.2 it (Ne.symm hne)).trans q, hne⟩, fun b hb => ?_⟩
    · have e1 : ((i + 1 : Nat) : Int) = (i : Int) + 1 := by omega
      rw [e1]; exact he'
    · have hb' : b < s.heap.objs.size := by
        have e' : b = e ∨ b = it := by simpa using hb
        rcases e' with z | z
        · rw [z]; exact hel
        · rw [z]; exact hil
      rw [upd_ne (Nat.ne_of_lt hb')]
      exact (hf b hb).1
  done := by
    intro X hP hw hK hc i pins s σ H E I hf st hg
    subst hP hw hK
    obtain ⟨⟨old, he⟩, hit, hne⟩ := st
    obtain ⟨xs, hq, hx⟩ := hg
    obtain ⟨its, rv, p, hz⟩ := I.tuple hq
    have hp : s.heap.IsTuple a its.toArray := p
    obtain ⟨f0, f1, f2, f3, f4, f5⟩ := hf it (by simp)
    have hl := rv.length
    have hT : s.TypeIs (.ref e) "enumerate" := ⟨_, he, rfl⟩
    unfold pyNext
    refine wpAny_bind (wpAny_attempt (wpAny_callSpecial?_slot (name := Str.ofString "__next__") hT F.slot_enumerate_next
      (wpAny_call_entry F.slot_enumerate_next hT F.entry_enumerate_next ?_ (F.args_enumerate_next_1 _))))
    show wpAny _ _ (field (.ref e) 2 >>= _) _ _ _
    refine wpAny_bind (wpAny_field he rfl (x := .ref it) rfl ?_)
    refine wpAny_bind (wpAny_nextOf_tuple_end (A := X.A.in1) (I.ok.hd hc) hit hp (by simp; omega) fun h' x he' hx' => ?_)
    obtain ⟨o, ho, hc⟩ := hx'
    refine wpAny_bind (wpAny_isInstance (T := "StopIteration") (b := true) ⟨o, ho, hc⟩ isSubtype_stop ?_)
    exact wpAny_pure ⟨rfl, I.turned (t' := s.toks) (fun b o hb q => he' b o hb q) f0 f1 f3 f4 f5⟩
  self := fun A i s Q E st h => let ⟨⟨_, he⟩, _⟩ := st; wpAny_pyIter_enum he h
def tEnA (K : PySem.W.Frag) (ta : TA) : TI := fun σ H R => ta σ H fun vs H1 => ∃ a, vs = [.ref a] ∧ ((∃ xs, SqL K H1 a xs ∧ R (Ite K a) H1) ∨ ∃ xs, SqT K H1 a xs ∧ R (Iten K a) H1)
theorem pi_enumA {X : Cx} {e : Expr} {ta : TA} {p pos tpos : Pos} {elts : List Expr} {kk : Nat} (hg : Gl X "enumerate") (hm : X.mg "enumerate" = none) (ha : PA X [e] ta) (hs : starEach [e] X.env = [(false, eval e X.env)] := by rfl) :
    PI X (.Tuple elts kk tpos) (.Call (.Name "enumerate" p) [e] [] pos) (tEnA X.K ta) := by
  refine ⟨fun pins s σ H R I h => ?_⟩
  refine Call_ (ld_blt I hg hm boot_enumerate (PyProof.Rows.callWith_type1 (thn (ha.run pos pins s σ H _ I h) fun us s1 ⟨vs, H1, I1, r1, q1⟩ => ?_) hs rfl))
  obtain ⟨a, ex, hq⟩ := q1
  subst ex
  cases r1 with
  | cons r rr =>
    cases rr
    cases r
    have fp : ∀ b ∈ [s1.heap.objs.size + 1, s1.heap.objs.size], FpOk X pins H1 b := fun b hb => by
      have e' : b = s1.heap.objs.size + 1 ∨ b = s1.heap.objs.size := by simpa using hb
      have hle : s1.heap.objs.size ≤ b := by
        rcases e' with z | z
        · rw [z]; exact Nat.le_add_right _ _
        · rw [z]; exact Nat.le_refl _
      exact I1.fpOk hle (I1.hok.fresh hle)
    rcases hq with ⟨xs, hq, q⟩ | ⟨xs, hq, q⟩
    · obtain ⟨its, rv, p', hz⟩ := I1.list hq
      refine call_enumerate_list p'.isList fun h' he hit hsz hk => wpAny_pyIter_enum he ?_
      have I2 : L2.Inv X pins σ H1 { s1 with heap := h' } := I1.kept (t' := s1.toks) hk
      exact ⟨s1.heap.objs.size + 1, [s1.heap.objs.size + 1, s1.heap.objs.size], _, _, H1, rfl, I2, turn_enum a (s1.heap.objs.size + 1) s1.heap.objs.size, ⟨⟨.none, he⟩, hit, Nat.succ_ne_self _⟩, fp, q⟩
    · obtain ⟨its, rv, p', hz⟩ := I1.tuple hq
      refine enum_begins1 (begins_tuple a its.toArray) p' fun h' he hit hsz hk => wpAny_pyIter_enum he ?_
      have I2 : L2.Inv X pins σ H1 { s1 with heap := h' } := I1.kept (t' := s1.toks) hk
      exact ⟨s1.heap.objs.size + 1, [s1.heap.objs.size + 1, s1.heap.objs.size], _, _, H1, rfl, I2, turn_enumT a (s1.heap.objs.size + 1) s1.heap.objs.size, ⟨⟨.none, he⟩, ⟨_, hit, rfl, rfl⟩, Nat.succ_ne_self _⟩, fp, q⟩
def enD : Nat → List PyData → List PyData
  | _, [] => []
  | k, d :: ds => .tuple [.int k, d] :: enD (k + 1) ds
theorem enD_len : ∀ (k : Nat) (ds : List PyData), (enD k ds).length = ds.length
  | _, [] => rfl
  | k, d :: ds => by show (enD (k + 1) ds).length + 1 = _; rw [enD_len]; rfl
theorem enD_get : ∀ {ds : List PyData} {k i : Nat} {d : PyData}, (enD k ds)[i]? = some d → ∃ e, d = .tuple [.int ((k + i : Nat) : Int), e] ∧ ds[i]? = some e
  | [], _, _, _, h => by simp [enD] at h
  | e :: ds, k, 0, d, h => by
    have z : PyData.tuple [.int k, e] = d := by simpa [enD] using h
    exact ⟨e, by rw [← z]; rfl, rfl⟩
  | e :: ds, k, i + 1, d, h => by
    obtain ⟨u, h1, h2⟩ := enD_get (ds := ds) (k := k + 1) (i := i) (by simpa [enD] using h)
    exact ⟨u, by rw [h1, show k + 1 + i = k + (i + 1) from by omega], by simpa using h2⟩
def iEn (f : En → Option PyData) : En → Option (List PyData) := fun ρ => ((f ρ).bind asSeq).map (enD 0)
section
variable {X : Cx} {a b c e : Expr} {es : List Expr} {fa fb fc f : En → Option PyData} {fs : En → Option (List PyData)} {pos p : Pos} {x : Str} {tg : Expr} {tf : En → Option Bool}
theorem di_enum {elts : List Expr} {kk : Nat} {tpos : Pos} (he : DE X e f) (hg : Gl X "enumerate") (hm : X.mg "enumerate" = none) (hs1 : starEach (e :: []) X.env = (false, eval e X.env) :: starEach [] X.env := by rfl) (hs : starEach [e] X.env = [(false, eval e X.env)] := by rfl) :
    DI X (.Tuple elts kk tpos) (.Call (.Name "enumerate" p) [e] [] pos) (iEn f) := by
  obtain ⟨t, pt, q⟩ := he
  refine ⟨_, pi_enumA hg hm (pa_cons pt pa_nil hs1) hs, fun σ H1 H ρ ds R s h k => ?_⟩
  obtain ⟨es, hz, rfl⟩ := map_some h
  clear h
  obtain ⟨d1, h1, hy⟩ := bind_some hz
  clear hz
  refine q σ H1 H ρ d1 _ s h1 fun v H1' H' x dv => ?_
  cases d1 <;> try (cases hy)
  all_goals cases dv
  · rename_i a xs hs hl dl
    refine ⟨a, rfl, .inl ⟨xs, x.sub.seq hs, k _ H1' H' x (by rw [enD_len]; exact hl) ?_⟩⟩
    intro G1 G s1 s2 i
    refine ⟨fun d z => ?_, fun l => ⟨xs, (s1.trans s2).seq hs, by rw [enD_len] at l; rw [dl.length]; exact l⟩⟩
    obtain ⟨u, rfl, z2⟩ := enD_get z
    obtain ⟨v, g1, g2⟩ := dl.get z2
    refine ⟨⟨xs, v, (s1.trans s2).seq hs, g1⟩, fun y G' hy => ?_⟩
    obtain ⟨T, y1, rfl, nT, rfl, f1⟩ := hy
    have b1 := f1 _ ((s1.trans s2).seq hs)
    rw [g1] at b1
    cases b1
    rw [Nat.zero_add]
    exact ⟨_, new2 s2 nT (.int _) (Den.mono s1 _ _ g2)⟩
  · rename_i a xs hs hl dl
    refine ⟨a, rfl, .inr ⟨xs, sqT_mono x.sub hs, k _ H1' H' x (by rw [enD_len]; exact hl) ?_⟩⟩
    intro G1 G s1 s2 i
    refine ⟨fun d z => ?_, fun l => ⟨xs, sqT_mono (s1.trans s2) hs, by rw [enD_len] at l; rw [dl.length]; exact l⟩⟩
    obtain ⟨u, rfl, z2⟩ := enD_get z
    obtain ⟨v, g1, g2⟩ := dl.get z2
    refine ⟨⟨xs, v, sqT_mono (s1.trans s2) hs, g1⟩, fun y G' hy => ?_⟩
    obtain ⟨T, y1, rfl, nT, rfl, f1⟩ := hy
    have b1 := f1 _ (sqT_mono (s1.trans s2) hs)
    rw [g1] at b1
    cases b1
    rw [Nat.zero_add]
    exact ⟨_, new2 s2 nT (.int _) (Den.mono s1 _ _ g2)⟩
end
end Dv

namespace Dv
open PySem PySem.Spec PyProof.Rows L2

/-! ### rows of ints in the order of tuples -/
def lexLe : List Int → List Int → Bool
  | [], _ => true
  | _ :: _, [] => false
  | a :: r, b :: q => decide (a < b) || (decide (a = b) && lexLe r q)
theorem lexLe_cons {a b : Int} {r q : List Int} : lexLe (a :: r) (b :: q) = true ↔ a < b ∨ (a = b ∧ lexLe r q = true) := by
  show (decide (a < b) || (decide (a = b) && lexLe r q)) = true ↔ _
  rw [Bool.or_eq_true, Bool.and_eq_true, decide_eq_true_eq, decide_eq_true_eq]
theorem lexLe_trans : ∀ {a b c : List Int}, lexLe a b = true → lexLe b c = true → lexLe a c = true
  | [], _, _, _, _ => rfl
  | _ :: _, [], _, h, _ => by cases h
  | _ :: _, _ :: _, [], _, h => by cases h
  | x :: a, y :: b, z :: c, h1, h2 => by
    rw [lexLe_cons] at *
    rcases h1 with h1 | ⟨h1, h3⟩
    · rcases h2 with h2 | ⟨h2, h4⟩
      · left; omega
      · left; omega
    · rcases h2 with h2 | ⟨h2, h4⟩
      · left; omega
      · right; exact ⟨by omega, lexLe_trans h3 h4⟩
theorem lexLe_total : ∀ (a b : List Int), (lexLe a b || lexLe b a) = true
  | [], _ => rfl
  | _ :: _, [] => rfl
  | x :: a, y :: b => by
    rw [Bool.or_eq_true, lexLe_cons, lexLe_cons]
    have ih := lexLe_total a b
    rw [Bool.or_eq_true] at ih
    rcases Int.lt_trichotomy x y with c | c | c
    · exact .inl (.inl c)
    · rcases ih with ih | ih
      · exact .inl (.inr ⟨c, ih⟩)
      · exact .inr (.inr ⟨c.symm, ih⟩)
    · exact .inr (.inl c)
theorem lexLe_anti : ∀ {a b : List Int}, lexLe a b = true → lexLe b a = true → a = b
  | [], [], _, _ => rfl
  | [], _ :: _, _, h => by cases h
  | _ :: _, [], h, _ => by cases h
  | x :: a, y :: b, h1, h2 => by
    rw [lexLe_cons] at *
    have e : x = y := by omega
    subst e
    rw [lexLe_anti (a := a) (b := b) (h1.elim (fun h => absurd h (Int.lt_irrefl _)) fun h => h.2) (h2.elim (fun h => absurd h (Int.lt_irrefl _)) fun h => h.2)]
theorem lexLe_refl : ∀ a : List Int, lexLe a a = true
  | [] => rfl
  | x :: a => lexLe_cons.mpr (.inr ⟨rfl, lexLe_refl a⟩)
/-- sorted(set(rows)) -/
def ssT (rs : List (List Int)) : List (List Int) := rs.eraseDups.mergeSort lexLe
theorem nodup_eraseDups {α : Type} [BEq α] [LawfulBEq α] : ∀ (n : Nat) (l : List α), l.length ≤ n → l.eraseDups.Nodup
  | _, [], _ => by simp
  | 0, _ :: _, h => by simp at h
  | n + 1, a :: l, h => by
    rw [List.eraseDups_cons, List.nodup_cons]
    refine ⟨?_, nodup_eraseDups n _ ?_⟩
    · rw [List.mem_eraseDups, List.mem_filter]
      simp
    · have := List.length_filter_le (fun b => !b == a) l
      rw [List.length_cons] at h
      omega
theorem eraseDups_len {α : Type} [BEq α] [LawfulBEq α] : ∀ (n : Nat) (l : List α), l.length ≤ n → l.eraseDups.length ≤ l.length
  | _, [], _ => by simp
  | 0, _ :: _, h => by simp at h
  | n + 1, a :: l, h => by
    rw [List.eraseDups_cons, List.length_cons, List.length_cons]
    have h1 := List.length_filter_le (fun b => !b == a) l
    rw [List.length_cons] at h
    have := eraseDups_len n (l.filter fun b => !b == a) (by omega)
    omega
theorem ssT_mem {rs : List (List Int)} {r : List Int} : r ∈ ssT rs ↔ r ∈ rs := by
  unfold ssT
  rw [(List.mergeSort_perm _ _).mem_iff, List.mem_eraseDups]
theorem ssT_nodup (rs : List (List Int)) : (ssT rs).Nodup := by
  unfold ssT
  rw [(List.mergeSort_perm _ _).nodup_iff]
  exact nodup_eraseDups _ _ (Nat.le_refl _)
theorem ssT_pw (rs : List (List Int)) : (ssT rs).Pairwise (fun a b => lexLe a b = true) :=
  List.pairwise_mergeSort (le := lexLe) (fun _ _ _ h1 h2 => lexLe_trans h1 h2) lexLe_total _
theorem ssT_eq {rs X : List (List Int)} (h1 : X.Nodup) (h2 : ∀ r, r ∈ X ↔ r ∈ rs) (h3 : X.Pairwise (fun a b => lexLe a b = true)) : X = ssT rs :=
  List.Perm.eq_of_pairwise (fun a b _ _ h1 h2 => lexLe_anti h1 h2) h3 (ssT_pw rs) ((List.perm_ext_iff_of_nodup h1 (ssT_nodup rs)).mpr fun r => by rw [h2, ssT_mem])
theorem ssT_congr {rs qs : List (List Int)} (h : ∀ r, r ∈ rs ↔ r ∈ qs) : ssT rs = ssT qs := ssT_eq (ssT_nodup rs) (fun r => by rw [ssT_mem, h]) (ssT_pw rs)
theorem code_lex : ∀ {a b : List Int}, a.length = b.length → TS.Bd 64 a → TS.Bd 64 b → TS.code 64 a ≤ TS.code 64 b → lexLe a b = true
  | [], [], _, _, _, _ => rfl
  | [], _ :: _, h, _, _, _ => by simp at h
  | _ :: _, [], h, _, _, _ => by simp at h
  | x :: a, y :: b, hl, h1, h2, h => by
    rw [List.length_cons, List.length_cons] at hl
    have hl' : a.length = b.length := by omega
    rw [lexLe_cons]
    rcases Int.lt_trichotomy x y with c | c | c
    · exact .inl c
    · subst c
      refine .inr ⟨rfl, code_lex hl' h1.tail h2.tail ?_⟩
      have := (TS.code_same (B := 64) (d := x) (r := b) (q := a) hl'.symm)
      omega
    · have := TS.code_lt (B := 64) hl'.symm h2.tail h1.tail c
      omega
def rowsD : List PyData → Option (List (List Int))
  | [] => some []
  | .tuple ds :: rest => (intsD ds).bind fun r => (rowsD rest).map fun rs => r :: rs
  | _ :: _ => none
theorem rowsD_map : ∀ rs : List (List Int), rowsD (rs.map fun r => PyData.tuple (r.map PyData.int)) = some rs
  | [] => rfl
  | r :: rs => by
    show (intsD (r.map PyData.int)).bind _ = _
    rw [intsD_map]
    show (rowsD (rs.map fun r => PyData.tuple (r.map PyData.int))).map _ = _
    rw [rowsD_map rs]
    rfl
theorem rowsD_den {K : PySem.W.Frag} {H : Hp} : ∀ {ds : List PyData} {rs : List (List Int)} {xs : List V}, rowsD ds = some rs → DenL K H xs ds → ∃ ks : List (Addr × List Int), xs = ks.map (fun p => V.ref p.1) ∧ ks.map (·.2) = rs ∧ ∀ p ∈ ks, Den K H (.ref p.1) (.tuple (p.2.map PyData.int)) ∧ SqT K H p.1 (p.2.map V.int)
  | [], _, _, h, hx => by
    cases h
    cases hx
    exact ⟨[], rfl, rfl, by simp⟩
  | d :: ds, rs, _, h, hx => by
    cases d <;> try (cases h)
    rename_i es
    obtain ⟨r, h1, h⟩ := bind_some h
    obtain ⟨rs', h2, rfl⟩ := map_some h
    cases hx with
    | cons a b =>
      obtain ⟨ks, e1, e2, e3⟩ := rowsD_den h2 b
      cases a with
      | tup hs hl dl =>
        have ev := intsD_vals h1 dl
        subst ev
        rename_i adr
        refine ⟨(adr, r) :: ks, by rw [List.map_cons, e1], by rw [List.map_cons, e2], fun p hp => ?_⟩
        rcases List.mem_cons.mp hp with rfl | hp
        · exact ⟨.tup hs (by have := dl.length; rw [List.length_map] at this; rw [List.length_map]; show r.length ≤ sizeLine; omega) (DenL.ints r), hs⟩
        · exact e3 p hp
def okRows (rs : List (List Int)) : Bool := decide (rs.length < 64) && rs.all fun r => decide (r.length = (rs.headD [0]).length) && decide (1 ≤ r.length) && r.all fun x => decide (0 ≤ x) && decide (x < 64)
theorem okRows_ok {rs : List (List Int)} (h : okRows rs = true) : rs.length < 64 ∧ ∃ d, 1 ≤ d ∧ ∀ r ∈ rs, r.length = d ∧ TS.Bd 64 r := by
  unfold okRows at h
  rw [Bool.and_eq_true, decide_eq_true_eq, List.all_eq_true] at h
  obtain ⟨h1, h2⟩ := h
  refine ⟨h1, ?_⟩
  match rs, h2 with
  | [], _ => exact ⟨1, Nat.le_refl _, by simp⟩
  | r :: rs, h2 =>
    have h0 := h2 r List.mem_cons_self
    simp only [Bool.and_eq_true, decide_eq_true_eq, List.all_eq_true] at h0
    refine ⟨r.length, h0.1.2, fun q hq => ?_⟩
    have h3 := h2 q hq
    simp only [Bool.and_eq_true, decide_eq_true_eq, List.all_eq_true, List.headD_cons] at h3
    exact ⟨of_decide_eq_true h3.1.1, fun m hm => h3.2 m hm⟩
def sortSetD : PyData → Option (List PyData)
  | .list ds => (rowsD ds).bind fun rs => if okRows rs = true then some ((ssT rs).map fun r => PyData.tuple (r.map PyData.int)) else none
  | _ => none
def eSortSet (f : En → Option PyData) : En → Option (List PyData) := fun ρ => (f ρ).bind sortSetD
section
variable {X : Cx} {a b c e : Expr} {es : List Expr} {fa fb fc f : En → Option PyData} {fs : En → Option (List PyData)} {pos p : Pos} {x : Str} {tg : Expr} {tf : En → Option Bool}
theorem den_rows {K : PySem.W.Frag} {H : Hp} : ∀ {ks : List (Addr × List Int)}, (∀ p ∈ ks, Den K H (.ref p.1) (.tuple (p.2.map PyData.int))) → DenL K H (ks.map fun p => V.ref p.1) ((ks.map (·.2)).map fun r => PyData.tuple (r.map PyData.int))
  | [], _ => .nil
  | p :: ks, h => .cons (h p List.mem_cons_self) (den_rows fun q hq => h q (List.mem_cons_of_mem _ hq))
theorem dl_sortSet {p2 q2 : Pos} (hc : X.calm = true) (hg : Gl X "sorted") (hm : X.mg "sorted" = none) (hg2 : Gl X "set") (hm2 : X.mg "set" = none) (hu : X.A.units + 64 < cLine) (he : DE X e f)
    (n1 : starEach (.Call (.Name "set" p2) [e] [] q2 :: []) X.env = (false, eval (.Call (.Name "set" p2) [e] [] q2) X.env) :: starEach [] X.env := by rfl) (n2 : starEach (e :: []) X.env = (false, eval e X.env) :: starEach [] X.env := by rfl) :
    DL X (.Call (.Name "sorted" p) [.Call (.Name "set" p2) [e] [] q2] [] pos) (eSortSet f) := by
  obtain ⟨t, pt, q⟩ := he
  refine ⟨_, pe_callB (cr_sortedT hc) hg hm (by decide +kernel) (pa_cons (pe_callTy (cr_setOfT hc hu) hg2 hm2 PyProof.Rows.boot_set (pa_cons pt pa_nil n2) (he := n2) (hpl := by rfl)) pa_nil n1) (he := n1) (hpl := by rfl), fun σ H1 H ρ cs Q s h k => ?_⟩
  obtain ⟨d1, h1, h⟩ := bind_some h
  cases d1 <;> try (cases h)
  rename_i ds
  obtain ⟨rs, h2, h⟩ := bind_some h
  obtain ⟨ok, rfl⟩ := of_if h
  obtain ⟨o1, d, o2, o3⟩ := okRows_ok ok
  refine q σ H1 H ρ _ _ s h1 fun v H1' H' x dv => ?_
  cases dv with
  | lst hs hl dl =>
    obtain ⟨ks, rfl, e2, e3⟩ := rowsD_den h2 dl
    subst e2
    have hks : ∀ p ∈ ks, p.2.length = d ∧ TS.Bd 64 p.2 := fun p hp => o3 p.2 (List.mem_map_of_mem hp)
    refine ⟨_, ks, rfl, x.sub.seq hs, fun p hp => sqT_mono x.sub (e3 p hp).2, by rw [List.length_map] at o1; exact o1, fun A L nA sub all => ?_⟩
    have x2 : Ext H1' H' H1' (upd H' A (SetTO X.prog X.w A L)) := .newMut x.sub nA
    refine ⟨A, L, d, 64, rfl, upd_same, fun p hp => sqT_mono x2.sub (e3 p (sub p hp)).2, o2, fun p hp => hks p (sub p hp), fun L' P pm nd few pw nP => ?_⟩
    have x3 : Ext H1' (upd H' A (SetTO X.prog X.w A L)) H1' (upd (upd H' A (SetTO X.prog X.w A L)) P (.lst (L'.map fun q => V.ref q.1))) := .newMut x2.sub nP
    have xx := (x.trans x2).trans x3
    have hsub : ∀ p ∈ L', p ∈ ks := fun p hp => sub p (pm.mem_iff.mp hp)
    have er : L'.map (·.2) = ssT (ks.map (·.2)) := by
      refine ssT_eq nd (fun r => ?_) ?_
      · rw [List.mem_map, List.mem_map]
        constructor
        · rintro ⟨p, hp, rfl⟩
          exact ⟨p, hsub p hp, rfl⟩
        · rintro ⟨p, hp, rfl⟩
          obtain ⟨p', hp', e⟩ := List.mem_map.mp (all p hp)
          exact ⟨p', pm.mem_iff.mpr hp', e⟩
      · rw [List.pairwise_map]
        refine List.Pairwise.imp_of_mem (fun {u v} hu hv huv => ?_) pw
        obtain ⟨a1, a2⟩ := hks u (hsub u hu)
        obtain ⟨b1, b2⟩ := hks v (hsub v hv)
        exact code_lex (a1.trans b1.symm) a2 b2 huv
    rw [← er] at k
    refine k P _ H1' _ xx ?_ upd_same (x2.sub.free nP) ?_ (den_rows fun p hp => (e3 p (hsub p hp)).1)
    · exact (Ext.same s.sub (x.trans x2)).free nP
    · rw [List.length_map, List.length_map, sizeLine_eq]; omega
/-! ### str(int) -/
def strD (ds : List PyData) : Option PyData := match ds with
  | [.int i] => if i.natAbs < 1000000000 then some (.str (toString i)) else none
  | _ => none
theorem v_str {K : PySem.W.Frag} : VN K (fun xs H Q => ∃ i : Int, xs = [.int i] ∧ i.natAbs.log2 < 1920 ∧ Q (.str (toString i)) H) strD := by
  intro xs ds c H1 H Q sm dx h k
  unfold strD at h
  split at h
  · obtain ⟨hl, rfl⟩ := of_if h
    rename_i i
    have e := DenL.ints_of (ns := [i]) dx
    subst e
    refine ⟨i, rfl, ?_, k _ H1 H (.refl sm) (.str _)⟩
    by_cases z : i.natAbs = 0
    · rw [z]; decide
    · rw [Nat.log2_lt z]
      refine Nat.lt_trans hl (Nat.lt_of_lt_of_le (show 1000000000 < 2 ^ 30 by decide) (Nat.pow_le_pow_right (by decide) (by decide)))
  · cases h

/-! ### x in xs, xs a list that the def changes -/
def eInM (i : Nat) (f : En → Option PyData) : En → Option PyData := fun ρ => (f ρ).bind fun d => match ρ[i]? with
  | some (some (.ml ds)) => inD d (.list ds)
  | _ => none
def eNinM (i : Nat) (f : En → Option PyData) : En → Option PyData := fun ρ => (f ρ).bind fun d => match ρ[i]? with
  | some (some (.ml ds)) => ninD d (.list ds)
  | _ => none
theorem ml_dp {K : PySem.W.Frag} {H1 H : Hp} {σ : L2.St} {ρ : En} {i : Nat} {ds : List PyData} (s : Sok K H1 H σ ρ) (e : ρ[i]? = some (some (.ml ds))) : ∃ v, σ[i]? = some (some v) ∧ Dp K H v (.list ds) := by
  obtain ⟨A, vs, eσ, hA, nA, hl, dl⟩ := s.ml e
  exact ⟨_, eσ, .lst (.of hA) (DenL.dp ds vs (DenL.mono s.sub _ _ dl))⟩
theorem den_ml {K : PySem.W.Frag} {H1 H : Hp} {A : Addr} {vs : List V} {ds : List PyData} (s : Same H1 H) (hA : H A = some (.lst vs)) (dl : DenL K H1 vs ds) : Dp K H (.ref A) (.list ds) :=
  .lst (.of hA) (DenL.dp ds vs (DenL.mono s _ _ dl))
theorem de_ninM (i : Nat) {x : Str} {px : Pos} (hu : X.A.units + 64 < cLine) (ha : DE X a fa) (hN : X.N[i]? = some x := by rfl) (hv : Vis X.env.scope x := by first | exact Or.inl rfl | exact Or.inr (Or.inl rfl) | exact Or.inr (Or.inr rfl)) (hd : (x == ("__debug__" : Str)) = false := by decide)
    (hcd : (x == ("__classdict__" : Str)) = false := by decide) (hm : behindInMarks .NotIn (.Name x px) = false := by rfl) : DE X (.Compare a [.NotIn] [.Name x px] pos) (eNinM i fa) := by
  obtain ⟨ta, pa, qa⟩ := ha
  refine ⟨_, pe_cmpR (op_ninA hu) pa (pe_var hN hv hd hcd) hm, fun σ H1 H ρ d Q s h k => ?_⟩
  obtain ⟨d1, h1, h⟩ := bind_some h
  split at h
  · rename_i ds em
    obtain ⟨A, vs, eσ, hA, nA, hl, dl⟩ := s.ml em
    refine qa σ H1 H ρ d1 _ s h1 fun v H1' H' x dv => ⟨_, eσ, ?_⟩
    obtain ⟨nA', hA'⟩ := x.fr A _ hA nA
    unfold ninD at h
    split at h
    · rename_i hg
      rw [Bool.and_eq_true] at hg
      cases h
      have gl := good_lay hg.2
      have gd := good_depth hg.2
      exact ⟨d1, ds, Den.dp _ _ (Den.mono x.sub _ _ dv), .inl (den_ml (x.st.trans x.sub) hA' dl), hg.1, by simpa only [PyData.canLay0] using gl, by simp only [PyData.depth] at gd; omega, k _ _ _ x (.bl _)⟩
    · cases h
  · cases h
theorem dt_ninM (i : Nat) {x : Str} {px : Pos} (hu : X.A.units + 64 < cLine) (ha : DE X a fa) (hN : X.N[i]? = some x := by rfl) (hv : Vis X.env.scope x := by first | exact Or.inl rfl | exact Or.inr (Or.inl rfl) | exact Or.inr (Or.inr rfl)) (hd : (x == ("__debug__" : Str)) = false := by decide)
    (hcd : (x == ("__classdict__" : Str)) = false := by decide) (hm : behindInMarks .NotIn (.Name x px) = false := by rfl) : DT X (.Compare a [.NotIn] [.Name x px] pos) (tB (eNinM i fa)) := by
  obtain ⟨ta, pa, qa⟩ := ha
  refine ⟨_, pt_cmpR (op_ninA hu) pa (pe_var hN hv hd hcd) hm, fun σ H1 H ρ d Q s h k => ?_⟩
  obtain ⟨d0, h, hb⟩ := bind_some h
  have e := asB_some hb
  subst e
  obtain ⟨d1, h1, h⟩ := bind_some h
  split at h
  · rename_i ds em
    obtain ⟨A, vs, eσ, hA, nA, hl, dl⟩ := s.ml em
    refine qa σ H1 H ρ d1 _ s h1 fun v H1' H' x dv => ⟨_, eσ, ?_⟩
    obtain ⟨nA', hA'⟩ := x.fr A _ hA nA
    unfold ninD at h
    split at h
    · rename_i hg
      rw [Bool.and_eq_true] at hg
      cases h
      have gl := good_lay hg.2
      have gd := good_depth hg.2
      exact ⟨d1, ds, Den.dp _ _ (Den.mono x.sub _ _ dv), .inl (den_ml (x.st.trans x.sub) hA' dl), hg.1, by simpa only [PyData.canLay0] using gl, by simp only [PyData.depth] at gd; omega, _, rfl, k _ _ x⟩
    · cases h
  · cases h
end
end Dv

namespace Dv
open PySem PySem.Spec PyProof.Rows L2

/-! ### how the functions of the slots are reckoned -/
section
variable {ρ : En} {f f' g fa fb fc : En → Option PyData} {fs fi : En → Option (List PyData)} {t u : En → Option Bool} {s s' : En → Option Out} {d e : PyData} {ds : List PyData} {i j : Nat}
@[simp] theorem eC_ap : eC d ρ = some d := rfl
@[simp] theorem eVar_0 : eVar 0 (some (.im d) :: ρ) = some d := rfl
@[simp] theorem eVar_s {x} : eVar (i + 1) (x :: ρ) = eVar i ρ := rfl
@[simp] theorem e1_ap {h} : e1 h f ρ = (f ρ).bind h := rfl
@[simp] theorem e2_ap {h} : e2 h f g ρ = (f ρ).bind fun d => (g ρ).bind fun e => h d e := rfl
@[simp] theorem e2L_ap {h} : e2L h f g ρ = (f ρ).bind fun d => (g ρ).bind fun e => h d e := rfl
@[simp] theorem eN_ap {h} : eN h fs ρ = (fs ρ).bind h := rfl
@[simp] theorem eNL_ap {h} : eNL h fs ρ = (fs ρ).bind h := rfl
@[simp] theorem eL_ap : eL fs ρ = (fs ρ).map PyData.list := rfl
@[simp] theorem eNil_ap : eNil ρ = some [] := rfl
@[simp] theorem eCons_ap : eCons f fs ρ = (f ρ).bind fun d => (fs ρ).map fun ds => d :: ds := rfl
@[simp] theorem tB_ap : tB f ρ = (f ρ).bind asB := rfl
@[simp] theorem asB_b {b} : asB (.bool b) = some b := rfl
@[simp] theorem tAndD_ap : tAndD t u ρ = (t ρ).bind fun b => if b = true then u ρ else some false := rfl
@[simp] theorem tOrD_ap : tOrD t u ρ = (t ρ).bind fun b => if b = true then some true else u ρ := rfl
@[simp] theorem tNotD_ap : tNotD t ρ = (t ρ).map fun b => !b := rfl
@[simp] theorem eAnd_ap : eAnd f g ρ = (tB f ρ).bind fun b => if b = true then g ρ else some (.bool false) := rfl
@[simp] theorem eOr_ap : eOr f g ρ = (tB f ρ).bind fun b => if b = true then some (.bool true) else g ρ := rfl
@[simp] theorem eNot_ap : eNot f ρ = (tB f ρ).map fun b => .bool (!b) := rfl
@[simp] theorem eIf_ap : eIf t f g ρ = (t ρ).bind fun b => if b = true then f ρ else g ρ := rfl
@[simp] theorem gN_ap : gN i d ρ = some (ρ.set i (some (.im d))) := rfl
@[simp] theorem sNil_ap : sNil ρ = some (.nx ρ) := rfl
@[simp] theorem sSeq_ap : sSeq s s' ρ = (s ρ).bind (thenD s') := rfl
@[simp] theorem thenD_nx : thenD s (.nx ρ) = s ρ := rfl
@[simp] theorem thenD_rt : thenD s (.rt d) = some (.rt d) := rfl
@[simp] theorem sAsg_ap {h} : sAsg f h ρ = (f ρ).bind fun d => (h d ρ).map Out.nx := rfl
@[simp] theorem sAsgL_ap : sAsgL i fs ρ = (fs ρ).map fun ds => .nx (ρ.set i (some (.ml ds))) := rfl
@[simp] theorem sIf_ap : sIf t s s' ρ = (t ρ).bind fun b => if b = true then s ρ else s' ρ := rfl
@[simp] theorem sRet_ap : sRet f ρ = (f ρ).map Out.rt := rfl
@[simp] theorem sFor_ap {h} : sFor fi h s ρ = (fi ρ).bind fun ds => forD h s ds ρ := rfl
@[simp] theorem sFrz_ap : sFrz i s ρ = s (frz i ρ) := rfl
@[simp] theorem forD_nil {h} : forD h s [] ρ = some (.nx ρ) := rfl
@[simp] theorem forD_cons {h} : forD h s (d :: ds) ρ = (h d ρ).bind fun ρ1 => (s ρ1).bind (loopD (forD h s ds)) := rfl
@[simp] theorem loopD_nx {go} : loopD go (.nx ρ) = go ρ := rfl
@[simp] theorem loopD_rt {go} : loopD go (.rt d) = some (.rt d) := rfl
@[simp] theorem gT_ap {n gs} : gT n gs (.tuple ds) ρ = if ds.length = n then gs ds ρ else none := rfl
@[simp] theorem gConsD_ap {h gs} : gConsD h gs (d :: ds) ρ = (h d ρ).bind fun ρ' => gs ds ρ' := rfl
@[simp] theorem gNilD_ap : gNilD [] ρ = some ρ := rfl
@[simp] theorem iSq_ap : iSq f ρ = (f ρ).bind asSeq := rfl
@[simp] theorem asSeq_l : asSeq (.list ds) = some ds := rfl
@[simp] theorem asSeq_t : asSeq (.tuple ds) = some ds := rfl
@[simp] theorem eLc_ap {spl is ow} : eLc fi spl is ow t f ρ = (fi ρ).bind fun ds => lcD spl is t f (wipeE ρ ow) ds := rfl
@[simp] theorem tYesD_ap : tYesD ρ = some true := rfl
@[simp] theorem oNo_ap : oNo ρ = some none := rfl
@[simp] theorem oSo_ap : oSo f ρ = (f ρ).bind asI := rfl
@[simp] theorem asI_i {k} : asI (.int k) = some (some k) := rfl
@[simp] theorem eSl_ap {l h} : eSl f l h ρ = (f ρ).bind fun d => (l ρ).bind fun lo => (h ρ).bind fun hi => slD lo hi d := rfl
@[simp] theorem slD_l {lo hi} : slD lo hi (.list ds) = some (.list (cutD ds lo hi)) := rfl
@[simp] theorem slD_t {lo hi} : slD lo hi (.tuple ds) = some (.tuple (cutD ds lo hi)) := rfl
@[simp] theorem setAllW_0 {is} : setAllW ρ [] is = ρ := rfl
@[simp] theorem setAllW_c {is} : setAllW ρ (i :: is) (d :: ds) = setAllW (ρ.set i (some (.im d))) is ds := rfl
@[simp] theorem wipeE_0 : wipeE ρ [] = ρ := rfl
@[simp] theorem wipeE_c {is} : wipeE ρ (i :: is) = (wipeE ρ is).set i none := rfl
@[simp] theorem splN_ap : splN d = some [d] := rfl
@[simp] theorem splT_ap {n} : splT n (.tuple ds) = if ds.length = n then some ds else none := rfl
@[simp] theorem outD_rt : outD (some (.rt d)) = some d := rfl
@[simp] theorem outD_nx : outD (some (.nx ρ)) = some .none := rfl
/-! lists that the def changes -/
@[simp] theorem gSubM_ap : gSubM i f d ρ = (f ρ).bind fun k => gSubK i k d ρ := rfl
@[simp] theorem gSubK_0 {k : Int} {ρ : En} : gSubK 0 (.int k) d (some (.ml ds) :: ρ) = (ixN ds.length k).map fun j => some (.ml (ds.set j d)) :: ρ := rfl
@[simp] theorem gSubK_s {k : Int} {x} : gSubK (i + 1) (.int k) d (x :: ρ) = (gSubK i (.int k) d ρ).map fun r => x :: r := by
  unfold gSubK
  simp only [List.getElem?_cons_succ]
  cases ρ[i]? with
  | none => rfl
  | some w =>
    cases w with
    | none => rfl
    | some w =>
      cases w with
      | ml ds =>
        simp only [Option.map_map]
        rfl
      | _ => rfl
def idxK (i : Nat) (k : PyData) (ρ : En) : Option PyData := match k, ρ[i]? with
  | .int n, some (some (.ml ds)) => atI ds n
  | _, _ => none
theorem eIdxM_ap : eIdxM i f ρ = (f ρ).bind fun k => idxK i k ρ := rfl
@[simp] theorem idxK_0 {k : Int} : idxK 0 (.int k) (some (.ml ds) :: ρ) = atI ds k := rfl
@[simp] theorem idxK_s {k : PyData} {x} : idxK (i + 1) k (x :: ρ) = idxK i k ρ := rfl
@[simp] theorem eTupM_0 : eTupM 0 (some (.ml ds) :: ρ) = some (.tuple ds) := rfl
@[simp] theorem eTupM_s {x} : eTupM (i + 1) (x :: ρ) = eTupM i ρ := rfl
@[simp] theorem eLenM_0 : eLenM 0 (some (.ml ds) :: ρ) = some (.int ds.length) := rfl
@[simp] theorem eLenM_s {x} : eLenM (i + 1) (x :: ρ) = eLenM i ρ := rfl
@[simp] theorem sApp_ap : sApp i f ρ = (f ρ).bind fun d => (appK i d ρ).map Out.nx := rfl
theorem appK_0 (h : ds.length < 16777216) : appK 0 d (some (.ml ds) :: ρ) = some (some (.ml (ds ++ [d])) :: ρ) := if_pos (by rw [sizeLine_eq]; exact h)
@[simp] theorem appK_s {x} : appK (i + 1) d (x :: ρ) = (appK i d ρ).map fun r => x :: r := by
  unfold appK
  simp only [List.getElem?_cons_succ]
  cases ρ[i]? with
  | none => rfl
  | some w =>
    cases w with
    | none => rfl
    | some w =>
      cases w with
      | ml ds =>
        simp only
        split <;> rfl
      | _ => rfl
@[simp] theorem frz_0 : frz 0 (some (.ml ds) :: ρ) = some (.im (.list ds)) :: ρ := rfl
@[simp] theorem frz_s {x} : frz (i + 1) (x :: ρ) = x :: frz i ρ := by
  unfold frz
  simp only [List.getElem?_cons_succ]
  cases ρ[i]? with
  | none => rfl
  | some w =>
    cases w with
    | none => rfl
    | some w => cases w <;> rfl
/-! ### data -/
@[simp] theorem addD_i {a b} : addD (.int a) (.int b) = some (.int (a + b)) := rfl
@[simp] theorem subD_i {a b} : subD (.int a) (.int b) = some (.int (a - b)) := rfl
@[simp] theorem negD_i {a} : negD (.int a) = some (.int (-a)) := rfl
@[simp] theorem ltD_i {a b} : ltD (.int a) (.int b) = some (.bool (decide (a < b))) := rfl
@[simp] theorem leD_i {a b} : leD (.int a) (.int b) = some (.bool (decide (a ≤ b))) := rfl
@[simp] theorem gtD_i {a b} : gtD (.int a) (.int b) = some (.bool (decide (b < a))) := rfl
@[simp] theorem geD_i {a b} : geD (.int a) (.int b) = some (.bool (decide (b ≤ a))) := rfl
theorem sz : (sizeLine : Nat) = 16777216 := sizeLine_eq
theorem addD_t {a b : List PyData} (h : a.length + b.length ≤ 16777216) : addD (.tuple a) (.tuple b) = some (.tuple (a ++ b)) := if_pos (by rw [sz]; exact h)
theorem addD_l {a b : List PyData} (h : a.length + b.length ≤ 16777216) : addD (.list a) (.list b) = some (.list (a ++ b)) := if_pos (by rw [sz]; exact h)
theorem catD_l {a b : List PyData} (h : a.length + b.length ≤ 16777216) : catD (.list a) (.list b) = some (a ++ b) := if_pos (by rw [sz]; exact h)
theorem mulD_l {a b : Int} (h : -(2 ^ 64) < a ∧ a < 2 ^ 64) : mulD2 (.int a) (.int b) = some (.int (a * b)) := if_pos (by unfold cMul; simp only [Bool.or_eq_true, decide_eq_true_eq]; omega)
theorem mulD_r {a b : Int} (h : -(2 ^ 64) < b ∧ b < 2 ^ 64) : mulD2 (.int a) (.int b) = some (.int (a * b)) := if_pos (by unfold cMul; simp only [Bool.or_eq_true, decide_eq_true_eq]; omega)
theorem modD_i {a b : Int} (h : 0 < b) : modD (.int a) (.int b) = some (.int (a % b)) := if_pos h
theorem fdivD_i {a b : Int} (h : 0 < b ∧ b < 1073741824) : fdivD (.int a) (.int b) = some (.int (a / b)) := if_pos ⟨h.1, by omega⟩
@[simp] theorem lenD_l : lenD [.list ds] = some (.int ds.length) := rfl
@[simp] theorem lenD_t : lenD [.tuple ds] = some (.int ds.length) := rfl
@[simp] theorem tupD_l : tupD [.list ds] = some (.tuple ds) := rfl
@[simp] theorem tupD_t : tupD [.tuple ds] = some (.tuple ds) := rfl
@[simp] theorem listD_l : listD [.list ds] = some ds := rfl
@[simp] theorem listD_t : listD [.tuple ds] = some ds := rfl
theorem minD2_i {a b : Int} : minD2 [.int a, .int b] = some (.int (min a b)) := by
  show some (PyData.int (if b < a then b else a)) = _
  congr 2
  omega
theorem maxD2_i {a b : Int} : maxD2 [.int a, .int b] = some (.int (max a b)) := by
  show some (PyData.int (if b > a then b else a)) = _
  congr 2
  omega
@[simp] theorem idxD_l {k} : idxD (.list ds) (.int k) = atI ds k := rfl
@[simp] theorem idxD_t {k} : idxD (.tuple ds) (.int k) = atI ds k := rfl
theorem mkT_ap (h : ds.length ≤ 16777216) : mkT ds = some (.tuple ds) := if_pos (by rw [sz]; exact h)
theorem mkL_ap (h : ds.length ≤ 16777216) : mkL ds = some ds := if_pos (by rw [sz]; exact h)
@[simp] theorem mkT_0 : mkT [] = some (.tuple []) := mkT_ap (by simp)
@[simp] theorem mkT_1 {a} : mkT [a] = some (.tuple [a]) := mkT_ap (by simp)
@[simp] theorem mkT_2 {a b} : mkT [a, b] = some (.tuple [a, b]) := mkT_ap (by simp)
@[simp] theorem mkL_0 : mkL [] = some [] := mkL_ap (by simp)
@[simp] theorem mkL_1 {a} : mkL [a] = some [a] := mkL_ap (by simp)
theorem rg1_i {k : Int} (h : 0 ≤ k ∧ k ≤ 16777216) : rg1 [.int k] = some (rng 0 k.toNat) := if_pos (by omega)
theorem rg2_i {a b : Int} (h : -4194304 ≤ a ∧ a ≤ 4194304 ∧ -4194304 ≤ b ∧ b ≤ 4194304) : rg2 [.int a, .int b] = some (rng a (b - a).toNat) := if_pos ⟨by omega, by omega⟩
@[simp] theorem eRg1_ap : eRg1 f ρ = (f ρ).bind rngD1 := rfl
@[simp] theorem eRg1T_ap : eRg1T f ρ = ((f ρ).bind rngD1).map PyData.tuple := rfl
theorem rngD1_i {k : Int} (h : 0 ≤ k ∧ k ≤ 4194304) : rngD1 (.int k) = some (rng 0 k.toNat) := by
  show (if rgOkB 0 k = true then some (rng 0 (k - 0).toNat) else none) = _
  rw [if_pos (by unfold rgOkB; simp; omega), Int.sub_zero]
theorem rg3_i {i j c : Int} {n : Nat} (h : rg3n i j c = some n) : rg3 [.int i, .int j, .int c] = some (rngC i c n) := by
  unfold rg3
  simp only [h, Option.map_some]
theorem rg3T_i {i j c : Int} {n : Nat} (h : rg3n i j c = some n) : rg3T [.int i, .int j, .int c] = some (.tuple (rngC i c n)) := by
  unfold rg3T
  rw [rg3_i h]
  rfl
theorem rg3n_dn {i j : Int} {n : Nat} (h : i.natAbs ≤ 4194304) (h2 : j.natAbs ≤ 4194304) (hn : (i - j).toNat = n) : rg3n i j (-1) = some n := by
  unfold rg3n
  rw [if_pos ⟨h, h2⟩, if_pos rfl, hn]
theorem rg3n_two {i j : Int} {n : Nat} (h : i.natAbs ≤ 4194304) (h2 : j.natAbs ≤ 4194304) (hn : (j - i + 1).toNat / 2 = n) : rg3n i j 2 = some n := by
  unfold rg3n
  rw [if_pos ⟨h, h2⟩, if_neg (by decide), if_pos rfl, hn]
@[simp] theorem revD_t : revD (.tuple ds) = some (.tuple ds.reverse) := rfl
@[simp] theorem revD_l : revD (.list ds) = some (.list ds.reverse) := rfl
@[simp] theorem eChain_ap {h h' : PyData → PyData → Option PyData} : eChain h h' fa fb fc ρ = (fa ρ).bind fun d => (fb ρ).bind fun e => ((h d e).bind asB).bind fun b => if b = true then (fc ρ).bind fun c => ((h' e c).bind asB).map PyData.bool else some (.bool false) := rfl
theorem eqD_bb (a b : Bool) : eqD (.bool a) (.bool b) = some (.bool (decide (a = b))) := by cases a <;> cases b <;> rfl
theorem neD_bb (a b : Bool) : neD (.bool a) (.bool b) = some (.bool (!decide (a = b))) := by cases a <;> cases b <;> rfl
theorem sortedD_t (ns : List Int) : sortedD [.tuple (ns.map PyData.int)] = some ((srt ns).map PyData.int) := by
  show (intsD (ns.map PyData.int)).map _ = _
  rw [intsD_map]
  rfl
theorem sortedD_l (ns : List Int) : sortedD [.list (ns.map PyData.int)] = some ((srt ns).map PyData.int) := by
  show (intsD (ns.map PyData.int)).map _ = _
  rw [intsD_map]
  rfl
@[simp] theorem eSortSet_ap : eSortSet f ρ = (f ρ).bind sortSetD := rfl
theorem iEn_ap : iEn f ρ = ((f ρ).bind asSeq).map (enD 0) := rfl
theorem atI_i {ds : List PyData} {k : Int} {n : Nat} {d : PyData} (hk : k = (n : Int)) (h : ds[n]? = some d) : atI ds k = some d := by
  subst hk
  exact atI_nat h

/-! ### good data, equality -/
def goodN (n : Nat) (d : PyData) : Prop := d.canLay0 = true ∧ d.depth ≤ n
theorem goodN.mono {n m : Nat} (h : goodN n d) (l : n ≤ m) : goodN m d := ⟨h.1, Nat.le_trans h.2 l⟩
theorem good_of {n : Nat} (h : goodN n d) (l : n ≤ 60 := by decide) : good d = true := by
  unfold good
  rw [h.1, decide_eq_true (Nat.le_trans h.2 l)]
  rfl
theorem goodN_int {k : Int} {n : Nat} : goodN n (.int k) := ⟨by simp [PyData.canLay0], by simp [PyData.depth]⟩
theorem goodN_bool {k : Bool} {n : Nat} : goodN n (.bool k) := ⟨by simp [PyData.canLay0], by simp [PyData.depth]⟩
theorem goodN_none {n : Nat} : goodN n .none := ⟨by simp [PyData.canLay0], by simp [PyData.depth]⟩
theorem all_lay {n : Nat} : ∀ {ds : List PyData}, (∀ d ∈ ds, goodN n d) → PyData.canLayAll0 ds = true ∧ PyData.depthAll ds ≤ n
  | [], _ => ⟨by simp [PyData.canLayAll0], by simp [PyData.depthAll]⟩
  | d :: ds, h => by
    obtain ⟨h1, h2⟩ := all_lay (ds := ds) fun x hx => h x (List.mem_cons_of_mem _ hx)
    obtain ⟨h3, h4⟩ := h d List.mem_cons_self
    exact ⟨by simp [PyData.canLayAll0, h1, h3], by simp only [PyData.depthAll]; omega⟩
theorem goodN_tuple {n : Nat} (h : ∀ d ∈ ds, goodN n d) : goodN (n + 1) (.tuple ds) := ⟨by simp only [PyData.canLay0]; exact (all_lay h).1, by simp only [PyData.depth]; have := (all_lay h).2; omega⟩
theorem goodN_list {n : Nat} (h : ∀ d ∈ ds, goodN n d) : goodN (n + 1) (.list ds) := ⟨by simp only [PyData.canLay0]; exact (all_lay h).1, by simp only [PyData.depth]; have := (all_lay h).2; omega⟩
/-! data without truths: equality is equality -/
mutual
def noB : PyData → Bool
  | .bool _ => false
  | .list ds => noBs ds
  | .tuple ds => noBs ds
  | .dict _ => false
  | _ => true
def noBs : List PyData → Bool
  | [] => true
  | d :: ds => noB d && noBs ds
end
mutual
theorem eqv_iff : ∀ (d e : PyData), noB d = true → noB e = true → (PyData.eqv d e = true ↔ d = e)
  | .none, e, _, h => by cases e <;> simp [PyData.eqv, noB] at *
  | .bool _, _, h, _ => by simp [noB] at h
  | .int i, e, _, h => by cases e <;> simp [PyData.eqv, noB] at *
  | .str i, e, _, h => by cases e <;> simp [PyData.eqv, noB] at *
  | .dict _, _, h, _ => by simp [noB] at h
  | .list ds, e, h1, h => by
    cases e with
    | list es =>
      simp only [noB] at h1 h
      simp only [PyData.eqv, PyData.list.injEq]
      exact eqvAll_iff ds es h1 h
    | _ => simp [PyData.eqv]
  | .tuple ds, e, h1, h => by
    cases e with
    | tuple es =>
      simp only [noB] at h1 h
      simp only [PyData.eqv, PyData.tuple.injEq]
      exact eqvAll_iff ds es h1 h
    | _ => simp [PyData.eqv]
theorem eqvAll_iff : ∀ (ds es : List PyData), noBs ds = true → noBs es = true → (PyData.eqvAll ds es = true ↔ ds = es)
  | [], [], _, _ => by simp [PyData.eqvAll]
  | [], _ :: _, _, _ => by simp [PyData.eqvAll]
  | _ :: _, [], _, _ => by simp [PyData.eqvAll]
  | d :: ds, e :: es, h1, h2 => by
    simp only [noBs, Bool.and_eq_true] at h1 h2
    simp only [PyData.eqvAll, Bool.and_eq_true, List.cons.injEq, eqv_iff d e h1.1 h2.1, eqvAll_iff ds es h1.2 h2.2]
end
theorem noBs_all : ∀ {ds : List PyData}, (∀ d ∈ ds, noB d = true) → noBs ds = true
  | [], _ => rfl
  | d :: ds, h => by
    show (noB d && noBs ds) = true
    rw [h d List.mem_cons_self, noBs_all fun x hx => h x (List.mem_cons_of_mem _ hx)]
    rfl
/-- plain: good and without truths -/
def pl (n : Nat) (d : PyData) : Prop := goodN n d ∧ noB d = true
theorem pl.mono {n m : Nat} (h : pl n d) (l : n ≤ m) : pl m d := ⟨h.1.mono l, h.2⟩
theorem pl_int {k : Int} {n : Nat} : pl n (.int k) := ⟨goodN_int, rfl⟩
theorem pl_none {n : Nat} : pl n .none := ⟨goodN_none, rfl⟩
theorem pl_tuple {n : Nat} (h : ∀ d ∈ ds, pl n d) : pl (n + 1) (.tuple ds) := ⟨goodN_tuple fun d hd => (h d hd).1, noBs_all fun d hd => (h d hd).2⟩
theorem pl_list {n : Nat} (h : ∀ d ∈ ds, pl n d) : pl (n + 1) (.list ds) := ⟨goodN_list fun d hd => (h d hd).1, noBs_all fun d hd => (h d hd).2⟩
theorem pl_two {n : Nat} {a b : PyData} (ha : pl n a) (hb : pl n b) : pl (n + 1) (.tuple [a, b]) := pl_tuple fun d hd => by
  rcases List.mem_cons.mp hd with rfl | hd
  · exact ha
  · rw [List.mem_singleton] at hd; subst hd; exact hb
theorem eqv_dec (h1 : noB d = true) (h2 : noB e = true) [Decidable (d = e)] : PyData.eqv d e = decide (d = e) := by
  have := eqv_iff d e h1 h2
  cases hq : PyData.eqv d e
  · rw [hq] at this
    exact (decide_eq_false fun z => by simpa using this.mpr z).symm
  · exact (decide_eq_true (this.mp hq)).symm
theorem eqD_pl {n m : Nat} (h1 : pl n d) (h2 : pl m e) {p : Prop} [Decidable p] (hp : d = e ↔ p) (l1 : n ≤ 60 := by decide) (l2 : m ≤ 60 := by decide) : eqD d e = some (.bool (decide p)) := by
  unfold eqD
  rw [good_of h1.1 l1, good_of h2.1 l2]
  have := (eqv_iff d e h1.2 h2.2).trans hp
  have e2 : PyData.eqv d e = decide p := by
    cases hq : PyData.eqv d e
    · exact (decide_eq_false fun z => by rw [hq] at this; simpa using this.mpr z).symm
    · exact (decide_eq_true (this.mp hq)).symm
  rw [e2]
  rfl
theorem neD_pl {n m : Nat} (h1 : pl n d) (h2 : pl m e) {p : Prop} [Decidable p] (hp : d = e ↔ p) (l1 : n ≤ 60 := by decide) (l2 : m ≤ 60 := by decide) : neD d e = some (.bool (!decide p)) := by
  have := eqD_pl h1 h2 hp l1 l2
  unfold eqD at this
  unfold neD
  rw [good_of h1.1 l1, good_of h2.1 l2] at this ⊢
  simp only [Bool.and_true, if_true, Option.some.injEq, PyData.bool.injEq] at this ⊢
  rw [this]
@[simp] theorem eqD_i {a b : Int} : eqD (.int a) (.int b) = some (.bool (decide (a = b))) := eqD_pl (n := 0) (m := 0) pl_int pl_int (by simp)
@[simp] theorem neD_i {a b : Int} : neD (.int a) (.int b) = some (.bool (!decide (a = b))) := neD_pl (n := 0) (m := 0) pl_int pl_int (by simp)
@[simp] theorem isN_n : isN d .none = some (.bool (isNonB d)) := rfl
@[simp] theorem notN_n : notN d .none = some (.bool (!isNonB d)) := rfl
@[simp] theorem isNonB_n : isNonB .none = true := rfl
@[simp] theorem isNonB_t : isNonB (.tuple ds) = false := rfl
/-- an empty list -/
theorem eqD_nil {n : Nat} (h : ∀ d ∈ ds, pl n d) (l : n + 1 ≤ 60 := by decide) : eqD (.list ds) (.list []) = some (.bool ds.isEmpty) := by
  rw [eqD_pl (p := ds = []) (pl_list h) (pl_list (n := 0) (ds := []) (by simp)) (by simp) l]
  cases ds <;> simp
theorem neD_nil {n : Nat} (h : ∀ d ∈ ds, pl n d) (l : n + 1 ≤ 60 := by decide) : neD (.list ds) (.list []) = some (.bool (!ds.isEmpty)) := by
  rw [neD_pl (p := ds = []) (pl_list h) (pl_list (n := 0) (ds := []) (by simp)) (by simp) l]
  cases ds <;> simp

/-! ### comprehensions -/
theorem lcD_spec {α : Type} {spl : PyData → Option (List PyData)} {is : List Nat} {ft : En → Option Bool} {fe : En → Option PyData} {ρ : En} (enc : α → PyData) (parts : α → List PyData) (p : α → Bool) (h : α → PyData) :
    ∀ (xs : List α), (∀ x ∈ xs, spl (enc x) = some (parts x) ∧ ft (setAllW ρ is (parts x)) = some (p x) ∧ (p x = true → fe (setAllW ρ is (parts x)) = some (h x))) → lcD spl is ft fe ρ (xs.map enc) = some ((xs.filter p).map h)
  | [], _ => rfl
  | x :: xs, H => by
    obtain ⟨h1, h2, h3⟩ := H x List.mem_cons_self
    have ih := lcD_spec enc parts p h xs fun y hy => H y (List.mem_cons_of_mem _ hy)
    show (spl (enc x)).bind _ = _
    rw [h1]
    show (ft (setAllW ρ is (parts x))).bind _ = _
    rw [h2]
    show (if p x = true then _ else _) = _
    rw [ih]
    by_cases hp : p x = true
    · rw [if_pos hp, h3 hp, List.filter_cons_of_pos hp]
      rfl
    · rw [if_neg hp, List.filter_cons_of_neg hp]
theorem lcD_map {α : Type} {spl : PyData → Option (List PyData)} {is : List Nat} {fe : En → Option PyData} {ρ : En} (enc : α → PyData) (parts : α → List PyData) (h : α → PyData) (xs : List α)
    (H : ∀ x ∈ xs, spl (enc x) = some (parts x) ∧ fe (setAllW ρ is (parts x)) = some (h x)) : lcD spl is tYesD fe ρ (xs.map enc) = some (xs.map h) := by
  have := lcD_spec (spl := spl) (is := is) (ft := tYesD) (fe := fe) (ρ := ρ) enc parts (fun _ => true) h xs fun x hx => ⟨(H x hx).1, rfl, fun _ => (H x hx).2⟩
  rw [this, List.filter_eq_self.mpr fun _ _ => rfl]
/-- a target that is one name -/
theorem lcD_mapN {α : Type} {i : Nat} {fe : En → Option PyData} {ρ : En} (enc h : α → PyData) (xs : List α) (H : ∀ x ∈ xs, fe (ρ.set i (some (.im (enc x)))) = some (h x)) : lcD splN [i] tYesD fe ρ (xs.map enc) = some (xs.map h) :=
  lcD_map enc (fun x => [enc x]) h xs fun x hx => ⟨rfl, H x hx⟩
theorem lcD_filN {α : Type} {i : Nat} {ft : En → Option Bool} {fe : En → Option PyData} {ρ : En} (enc : α → PyData) (p : α → Bool) (h : α → PyData) (xs : List α) (H : ∀ x ∈ xs, ft (ρ.set i (some (.im (enc x)))) = some (p x) ∧ (p x = true → fe (ρ.set i (some (.im (enc x)))) = some (h x))) :
    lcD splN [i] ft fe ρ (xs.map enc) = some ((xs.filter p).map h) := lcD_spec enc (fun x => [enc x]) p h xs fun x hx => ⟨rfl, H x hx⟩
end
/-- a loop that keeps to P and never leaves -/
theorem forD_inv {g : PyData → En → Option En} {f : En → Option Out} (P : En → Prop) : ∀ (ds : List PyData), (∀ d ∈ ds, ∀ ρ, P ρ → ∃ ρ1 ρ2, g d ρ = some ρ1 ∧ f ρ1 = some (.nx ρ2) ∧ P ρ2) → ∀ ρ, P ρ → ∃ ρ', forD g f ds ρ = some (.nx ρ') ∧ P ρ'
  | [], _, ρ, h => ⟨ρ, rfl, h⟩
  | d :: ds, H, ρ, h => by
    obtain ⟨ρ1, ρ2, e1, e2, h2⟩ := H d List.mem_cons_self ρ h
    obtain ⟨ρ', e3, h3⟩ := forD_inv P ds (fun d hd => H d (List.mem_cons_of_mem _ hd)) ρ2 h2
    refine ⟨ρ', ?_, h3⟩
    rw [forD_cons, e1, Option.bind_some, e2, Option.bind_some, loopD_nx]
    exact e3
theorem inD_pl {n m : Nat} {d : PyData} {ds : List PyData} (h1 : pl n d) (h2 : ∀ e ∈ ds, pl m e) (p : PyData → Bool) (hp : ∀ e ∈ ds, (e = d ↔ p e = true)) (l1 : n ≤ 60 := by decide) (l2 : m + 1 ≤ 60 := by decide) : inD d (.tuple ds) = some (.bool (ds.any p)) := by
  unfold inD
  rw [good_of h1.1 l1, good_of (pl_tuple h2).1 l2]
  simp only [Bool.and_true, if_true, Option.some.injEq, PyData.bool.injEq]
  rw [Bool.eq_iff_iff, List.any_eq_true, List.any_eq_true]
  constructor
  · rintro ⟨e, he, h⟩
    exact ⟨e, he, (hp e he).mp ((eqv_iff e d (h2 e he).2 h1.2).mp h)⟩
  · rintro ⟨e, he, h⟩
    exact ⟨e, he, (eqv_iff e d (h2 e he).2 h1.2).mpr ((hp e he).mpr h)⟩
theorem ninD_pl {n m : Nat} {d : PyData} {ds : List PyData} (h1 : pl n d) (h2 : ∀ e ∈ ds, pl m e) (p : PyData → Bool) (hp : ∀ e ∈ ds, (e = d ↔ p e = true)) (l1 : n ≤ 60 := by decide) (l2 : m + 1 ≤ 60 := by decide) : ninD d (.tuple ds) = some (.bool (!ds.any p)) := by
  have h := inD_pl h1 h2 p hp l1 l2
  unfold inD at h
  unfold ninD
  rw [good_of h1.1 l1, good_of (pl_tuple h2).1 l2] at h ⊢
  simp only [Bool.and_true, if_true, Option.some.injEq, PyData.bool.injEq] at h ⊢
  rw [h]
/-- a def that has n places, m of them none -/
theorem fnD_ap {n m : Nat} {f : En → Option Out} {ds : List PyData} (h : ds.length = n) : fnD n m f ds = outD (f (ds.map (fun d => some (.im d)) ++ List.replicate m none)) := if_pos h
end Dv

/-! Nets and rows, in plain Lean. -/
namespace Nt
open PySem

abbrev Sw := Nat × Nat
abbrev Net := List Sw
abbrev Row := List Int
def lo (p : Sw) (r : Row) : Int := min (r.getD p.1 0) (r.getD p.2 0)
def hi (p : Sw) (r : Row) : Int := max (r.getD p.1 0) (r.getD p.2 0)
def sw (p : Sw) (r : Row) : Row := (r.set p.1 (lo p r)).set p.2 (hi p r)
def run (n : Net) (r : Row) : Row := n.foldl (fun r p => sw p r) r
def SwOk (w : Nat) (p : Sw) : Prop := p.1 < w ∧ p.2 < w ∧ p.1 ≠ p.2
def Ok (w : Nat) (n : Net) : Prop := ∀ p ∈ n, SwOk w p
theorem sw_len (p : Sw) (r : Row) : (sw p r).length = r.length := by unfold sw; rw [List.length_set, List.length_set]
theorem run_nil (r : Row) : run [] r = r := rfl
theorem run_cons (p : Sw) (n : Net) (r : Row) : run (p :: n) r = run n (sw p r) := rfl
theorem run_app (n m : Net) (r : Row) : run (n ++ m) r = run m (run n r) := by unfold run; rw [List.foldl_append]
theorem run_len : ∀ (n : Net) (r : Row), (run n r).length = r.length
  | [], _ => rfl
  | p :: n, r => by rw [run_cons, run_len n, sw_len]
theorem Ok.nil (w : Nat) : Ok w [] := fun p h => by simp at h
theorem Ok.cons {w : Nat} {p : Sw} {n : Net} (h : SwOk w p) (h' : Ok w n) : Ok w (p :: n) := fun q hq => by
  rcases List.mem_cons.mp hq with rfl | hq
  · exact h
  · exact h' q hq
theorem Ok.head {w : Nat} {p : Sw} {n : Net} (h : Ok w (p :: n)) : SwOk w p := h p List.mem_cons_self
theorem Ok.tail {w : Nat} {p : Sw} {n : Net} (h : Ok w (p :: n)) : Ok w n := fun q hq => h q (List.mem_cons_of_mem _ hq)
theorem Ok.app {w : Nat} {n m : Net} (h : Ok w n) (h' : Ok w m) : Ok w (n ++ m) := fun q hq => (List.mem_append.mp hq).elim (h q) (h' q)
theorem Ok.take {w : Nat} {n : Net} (h : Ok w n) (k : Nat) : Ok w (n.take k) := fun q hq => h q (List.mem_of_mem_take hq)
theorem Ok.drop {w : Nat} {n : Net} (h : Ok w n) (k : Nat) : Ok w (n.drop k) := fun q hq => h q (List.mem_of_mem_drop hq)
theorem getD_map (f : Int → Int) (r : Row) {i : Nat} (h : i < r.length) : (r.map f).getD i 0 = f (r.getD i 0) := by
  simp [List.getD_eq_getElem?_getD, List.getElem?_eq_getElem h]
/-- what stands on a line behind a swap -/
theorem sw_get (p : Sw) (r : Row) (h : SwOk r.length p) (i : Nat) : (sw p r).getD i 0 = if i = p.2 then hi p r else if i = p.1 then lo p r else r.getD i 0 := by
  unfold sw
  rw [List.getD_eq_getElem?_getD, List.getElem?_set, List.getElem?_set, List.length_set]
  obtain ⟨h1, h2, h3⟩ := h
  by_cases e2 : i = p.2
  · subst e2
    rw [if_pos rfl, if_pos h2, if_pos rfl]
    rfl
  · rw [if_neg fun z => e2 z.symm, if_neg e2]
    by_cases e1 : i = p.1
    · subst e1
      rw [if_pos rfl, if_pos h1, if_pos rfl]
      rfl
    · rw [if_neg fun z => e1 z.symm, if_neg e1, List.getD_eq_getElem?_getD]

/-! ### maps that rise -/
def Rises (f : Int → Int) : Prop := ∀ a b, a ≤ b → f a ≤ f b
theorem Rises.min {f : Int → Int} (h : Rises f) (a b : Int) : f (min a b) = min (f a) (f b) := by
  have h1 := h a b
  have h2 := h b a
  by_cases hab : a ≤ b
  · rw [Int.min_eq_left hab, Int.min_eq_left (h1 hab)]
  · rw [Int.min_eq_right (by omega), Int.min_eq_right (h2 (by omega))]
theorem Rises.max {f : Int → Int} (h : Rises f) (a b : Int) : f (max a b) = max (f a) (f b) := by
  have h1 := h a b
  have h2 := h b a
  by_cases hab : a ≤ b
  · rw [Int.max_eq_right hab, Int.max_eq_right (h1 hab)]
  · rw [Int.max_eq_left (by omega), Int.max_eq_left (h2 (by omega))]
theorem sw_map {f : Int → Int} (h : Rises f) {p : Sw} {r : Row} (hp : SwOk r.length p) : sw p (r.map f) = (sw p r).map f := by
  unfold sw lo hi
  rw [getD_map f r hp.1, getD_map f r hp.2.1, ← h.min, ← h.max, List.map_set, List.map_set]
theorem run_map {f : Int → Int} (h : Rises f) : ∀ {n : Net} {r : Row}, Ok r.length n → run n (r.map f) = (run n r).map f
  | [], _, _ => rfl
  | p :: n, r, ok => by
    rw [run_cons, run_cons, sw_map h ok.head, run_map h (by rw [sw_len]; exact ok.tail)]

/-! ### in order -/
def ord : Row → Bool
  | a :: b :: r => decide (a ≤ b) && ord (b :: r)
  | _ => true
theorem ord_iff : ∀ r : Row, ord r = true ↔ ∀ i, i + 1 < r.length → r.getD i 0 ≤ r.getD (i + 1) 0
  | [] => by simp [ord]
  | [a] => by simp [ord]
  | a :: b :: r => by
    unfold ord
    rw [Bool.and_eq_true, decide_eq_true_eq, ord_iff (b :: r)]
    constructor
    · rintro ⟨h1, h2⟩ i hi
      cases i with
      | zero => exact h1
      | succ i => exact h2 i (by simpa using hi)
    · intro h
      exact ⟨h 0 (by simp), fun i hi => h (i + 1) (by simpa using hi)⟩
theorem ord_le {r : Row} (h : ord r = true) : ∀ {i j : Nat}, i ≤ j → j < r.length → r.getD i 0 ≤ r.getD j 0 := fun {i j} hij hj => by
  have key := (ord_iff r).mp h
  induction j with
  | zero => rw [Nat.le_zero.mp hij]; exact Int.le_refl _
  | succ j ih =>
    by_cases e : i = j + 1
    · rw [e]; exact Int.le_refl _
    · exact Int.le_trans (ih (by omega) (by omega)) (key j hj)
theorem ord_of {r : Row} (h : ∀ i j : Nat, i < j → j < r.length → r.getD i 0 ≤ r.getD j 0) : ord r = true := (ord_iff r).mpr fun i hi => h i (i + 1) (by omega) hi
/-- noughts and ones -/
def plain : Nat → List Row
  | 0 => [[]]
  | w + 1 => (plain w).map (fun r => r ++ [0]) ++ (plain w).map (fun r => r ++ [1])
theorem plain_mem : ∀ {w : Nat} {r : Row}, r ∈ plain w ↔ r.length = w ∧ ∀ x ∈ r, x = 0 ∨ x = 1
  | 0, r => by
    unfold plain
    rw [List.mem_singleton]
    constructor
    · rintro rfl; simp
    · rintro ⟨h, _⟩; exact List.eq_nil_of_length_eq_zero h
  | w + 1, r => by
    unfold plain
    rw [List.mem_append, List.mem_map, List.mem_map]
    constructor
    · rintro (⟨q, hq, rfl⟩ | ⟨q, hq, rfl⟩)
      · obtain ⟨h1, h2⟩ := plain_mem.mp hq
        refine ⟨by simp [h1], fun x hx => ?_⟩
        rcases List.mem_append.mp hx with hx | hx
        · exact h2 x hx
        · rw [List.mem_singleton] at hx; exact .inl hx
      · obtain ⟨h1, h2⟩ := plain_mem.mp hq
        refine ⟨by simp [h1], fun x hx => ?_⟩
        rcases List.mem_append.mp hx with hx | hx
        · exact h2 x hx
        · rw [List.mem_singleton] at hx; exact .inr hx
    · rintro ⟨h1, h2⟩
      have hne : r ≠ [] := fun e => by rw [e] at h1; simp at h1
      have e : r.dropLast ++ [r.getLast hne] = r := List.dropLast_concat_getLast hne
      have hq : r.dropLast ∈ plain w := plain_mem.mpr ⟨by rw [List.length_dropLast]; omega, fun x hx => h2 x (List.dropLast_subset _ hx)⟩
      rcases h2 (r.getLast hne) (List.getLast_mem hne) with z | z
      · left
        refine ⟨_, hq, ?_⟩
        rw [z] at e
        exact e
      · right
        refine ⟨_, hq, ?_⟩
        rw [z] at e
        exact e
theorem plain_len (w : Nat) : (plain w).length = 2 ^ w := by
  induction w with
  | zero => rfl
  | succ w ih =>
    unfold plain
    rw [List.length_append, List.length_map, List.length_map, ih]
    omega
def step (c : Int) (x : Int) : Int := if x > c then 1 else 0
theorem step_rises (c : Int) : Rises (step c) := fun a b h => by
  unfold step
  split <;> split <;> omega
theorem step_plain (c : Int) (r : Row) : r.map (step c) ∈ plain r.length := plain_mem.mpr ⟨by rw [List.length_map], fun x hx => by
  obtain ⟨y, _, rfl⟩ := List.mem_map.mp hx
  unfold step
  split
  · exact .inr rfl
  · exact .inl rfl⟩
/-- between two lines: what holds of noughts and ones holds of all -/
theorem zero_one_pair {n : Net} {w i j : Nat} (ok : Ok w n) (h : ∀ q ∈ plain w, (run n q).getD i 0 ≤ (run n q).getD j 0) (hi : i < w) (hj : j < w) {r : Row} (hr : r.length = w) : (run n r).getD i 0 ≤ (run n r).getD j 0 := by
  have hq := h (r.map (step ((run n r).getD j 0))) (by rw [← hr]; exact step_plain _ _)
  rw [run_map (step_rises _) (by rw [hr]; exact ok), getD_map _ _ (by rw [run_len]; omega), getD_map _ _ (by rw [run_len]; omega)] at hq
  unfold step at hq
  split at hq
  · split at hq <;> omega
  · omega
/-- .. for rows of some kind that is kept -/
theorem zero_one_of {n : Net} {w : Nat} (ok : Ok w n) {r : Row} (hr : r.length = w) (h : ∀ c : Int, ord (run n (r.map (step c))) = true) : ord (run n r) = true := by
  refine (ord_iff _).mpr fun i hi => ?_
  rw [run_len] at hi
  have hq := (ord_iff _).mp (h ((run n r).getD (i + 1) 0)) i (by rw [run_len, List.length_map]; exact hi)
  rw [run_map (step_rises _) (by rw [hr]; exact ok), getD_map _ _ (by rw [run_len]; omega), getD_map _ _ (by rw [run_len]; omega)] at hq
  unfold step at hq
  split at hq
  · split at hq <;> omega
  · omega
theorem zero_one {n : Net} {w : Nat} (ok : Ok w n) (h : ∀ q ∈ plain w, ord (run n q) = true) {r : Row} (hr : r.length = w) : ord (run n r) = true :=
  zero_one_of ok hr fun c => h _ (by rw [← hr]; exact step_plain _ _)
end Nt

/-! nets and rows as data -/
namespace Dv
open PySem PySem.Spec PyProof.Rows L2
def swD (p : Nt.Sw) : PyData := .tuple [.int p.1, .int p.2]
def netD (n : Nt.Net) : PyData := .tuple (n.map swD)
def rowD (r : Nt.Row) : PyData := .tuple (r.map .int)
def optRow : Option Nt.Row → PyData
  | none => .none
  | some q => rowD q
theorem opt_non (o : Option Nt.Row) : isNonB (optRow o) = !o.isSome := by cases o <;> rfl
theorem bools_map : ∀ bs : List Bool, bools (bs.map PyData.bool) = some bs
  | [] => rfl
  | b :: bs => by
    show (bools (bs.map PyData.bool)).map (fun c => b :: c) = _
    rw [bools_map bs]
    rfl
theorem at_row {r : Nt.Row} {k : Nat} (h : k < r.length) : atI (r.map PyData.int) (k : Int) = some (.int (r.getD k 0)) :=
  atI_nat (by rw [List.getElem?_map, List.getElem?_eq_getElem h, List.getD_eq_getElem?_getD, List.getElem?_eq_getElem h]; rfl)
theorem ixN_nat {n k : Nat} (h : k < n) : ixN n (k : Int) = some k := by
  unfold ixN
  rw [if_pos (by omega), if_pos (by omega)]
  rfl
theorem map_set_int (r : Nt.Row) (k : Nat) (x : Int) : (r.map PyData.int).set k (.int x) = (r.set k x).map PyData.int := by rw [List.map_set]
theorem pl_sw (p : Nt.Sw) : pl 1 (swD p) := pl_two pl_int pl_int
theorem pl_net (n : Nt.Net) : pl 2 (netD n) := pl_tuple fun d hd => by
  obtain ⟨p, _, rfl⟩ := List.mem_map.mp hd
  exact pl_sw p
theorem pl_row (r : Nt.Row) : pl 1 (rowD r) := pl_tuple fun d hd => by
  obtain ⟨p, _, rfl⟩ := List.mem_map.mp hd
  exact pl_int
theorem ints_inj : ∀ {a b : List Int}, a.map PyData.int = b.map PyData.int → a = b
  | [], [], _ => rfl
  | [], _ :: _, h => by simp at h
  | _ :: _, [], h => by simp at h
  | x :: a, y :: b, h => by
    simp only [List.map_cons, List.cons.injEq, PyData.int.injEq] at h
    rw [h.1, ints_inj h.2]
theorem rowD_inj {a b : Nt.Row} : rowD a = rowD b ↔ a = b := ⟨fun h => ints_inj (PyData.tuple.inj h), fun h => by rw [h]⟩
theorem swD_inj {p q : Nt.Sw} : swD p = swD q ↔ p = q := by
  constructor
  · intro h
    have h := PyData.tuple.inj h
    simp only [List.cons.injEq, PyData.int.injEq, and_true] at h
    obtain ⟨a, b⟩ := p
    obtain ⟨c, d⟩ := q
    simp only at h
    rw [Prod.mk.injEq]
    omega
  · intro h; rw [h]
theorem sws_inj : ∀ {a b : Nt.Net}, a.map swD = b.map swD → a = b
  | [], [], _ => rfl
  | [], _ :: _, h => by simp at h
  | _ :: _, [], h => by simp at h
  | x :: a, y :: b, h => by
    simp only [List.map_cons, List.cons.injEq] at h
    rw [swD_inj.mp h.1, sws_inj h.2]
theorem netD_inj {a b : Nt.Net} : netD a = netD b ↔ a = b := ⟨fun h => sws_inj (PyData.tuple.inj h), fun h => by rw [h]⟩
theorem cut_to {α : Type} (xs : List α) (k : Nat) : cutD xs none (some (k : Int)) = xs.take k := by
  unfold cutD
  rw [HT.sIx_none, HT.sIx_nat, List.drop_zero, Nat.sub_zero]
  by_cases h : k ≤ xs.length
  · rw [Nat.min_eq_left h]
  · rw [Nat.min_eq_right (by omega), List.take_length, List.take_of_length_le (by omega)]
theorem cut_from {α : Type} (xs : List α) (k : Nat) : cutD xs (some (k : Int)) none = xs.drop k := by
  unfold cutD
  rw [HT.sIx_none, HT.sIx_nat]
  by_cases h : k ≤ xs.length
  · rw [Nat.min_eq_left h, List.take_of_length_le (by rw [List.length_drop]; omega)]
  · rw [Nat.min_eq_right (by omega), List.drop_of_length_le (Nat.le_refl _), List.drop_of_length_le (by omega), List.take_nil]
theorem cut_last {α : Type} (xs : List α) : cutD xs none (some (-1)) = xs.dropLast := by
  unfold cutD
  rw [HT.sIx_none]
  have e : HT.sIx xs.length xs.length (some (-1)) = xs.length - 1 := by
    have h := HT.clip_eq (-1) xs.length xs.length
    rw [if_pos (by omega)] at h
    omega
  rw [e, List.drop_zero, Nat.sub_zero, List.dropLast_eq_take]
theorem rng0 (n : Nat) : rng 0 n = (List.range n).map fun i => PyData.int ((i : Nat) : Int) := by
  unfold rng
  refine List.map_congr_left fun i _ => ?_
  rw [Int.zero_add]
theorem kit_tt {ds : List PyData} : isiD "tuple" (.tuple ds) = some (.bool true) := by
  show (kitB "tuple" "tuple").map PyData.bool = _
  rw [show kitB "tuple" "tuple" = some true by decide +kernel]
  rfl
theorem kit_ib {i : Int} : isiD "bool" (.int i) = some (.bool false) := by
  show (kitB "int" "bool").map PyData.bool = _
  rw [show kitB "int" "bool" = some false by decide +kernel]
  rfl
theorem kit_ii {i : Int} : isiD "int" (.int i) = some (.bool true) := by
  show (kitB "int" "int").map PyData.bool = _
  rw [show kitB "int" "int" = some true by decide +kernel]
  rfl
theorem kit_bb {b : Bool} : isiD "bool" (.bool b) = some (.bool true) := by
  show (kitB "bool" "bool").map PyData.bool = _
  rw [show kitB "bool" "bool" = some true by decide +kernel]
  rfl
theorem any_sw (p : Nt.Sw) (n : Nt.Net) : ((n.map swD).any fun e => PyData.eqv e (swD p)) = decide (p ∈ n) := by
  rw [Bool.eq_iff_iff, List.any_eq_true, decide_eq_true_eq]
  constructor
  · rintro ⟨e, he, h⟩
    obtain ⟨q, hq, rfl⟩ := List.mem_map.mp he
    have := (eqv_iff (swD q) (swD p) (pl_sw q).2 (pl_sw p).2).mp h
    rw [← swD_inj.mp this]
    exact hq
  · intro h
    exact ⟨swD p, List.mem_map_of_mem h, (eqv_iff _ _ (pl_sw p).2 (pl_sw p).2).mpr rfl⟩
theorem in_net (p : Nt.Sw) (n : Nt.Net) : inD (swD p) (netD n) = some (.bool (decide (p ∈ n))) := by
  unfold inD netD
  rw [good_of (pl_sw p).1 (by decide), good_of (show pl 2 (.tuple (n.map swD)) from pl_net n).1 (by decide)]
  simp only [Bool.and_true, if_true, any_sw]
theorem nin_net (p : Nt.Sw) (n : Nt.Net) : ninD (swD p) (netD n) = some (.bool (!decide (p ∈ n))) := by
  unfold ninD netD
  rw [good_of (pl_sw p).1 (by decide), good_of (show pl 2 (.tuple (n.map swD)) from pl_net n).1 (by decide)]
  simp only [Bool.and_true, if_true, any_sw]
theorem neD_net (n : Nt.Net) : neD (netD n) (netD n) = some (.bool false) := by
  rw [neD_pl (p := True) (pl_net _) (pl_net _) (by simp)]
  rfl
theorem eqD_net (n : Nt.Net) : eqD (netD n) (netD n) = some (.bool true) := by
  rw [eqD_pl (p := True) (pl_net _) (pl_net _) (by simp)]
  rfl
theorem neD_row (n : Nt.Row) : neD (rowD n) (rowD n) = some (.bool false) := by
  rw [neD_pl (p := True) (pl_row _) (pl_row _) (by simp)]
  rfl
theorem eqD_row (n : Nt.Row) : eqD (rowD n) (rowD n) = some (.bool true) := by
  rw [eqD_pl (p := True) (pl_row _) (pl_row _) (by simp)]
  rfl
theorem add_net {n m : Nt.Net} (h : n.length + m.length ≤ 10000) : addD (netD n) (netD m) = some (netD (n ++ m)) := by
  unfold netD
  rw [addD_t (by rw [List.length_map, List.length_map]; omega), List.map_append]
theorem len_net (n : Nt.Net) : lenD [netD n] = some (.int (n.length : Int)) := by unfold netD; rw [lenD_t, List.length_map]
theorem cut_net_to (n : Nt.Net) (k : Nat) : slD none (some (k : Int)) (netD n) = some (netD (n.take k)) := by unfold netD; rw [slD_t, cut_to, List.map_take]
theorem cut_net_from (n : Nt.Net) (k : Nat) : slD (some (k : Int)) none (netD n) = some (netD (n.drop k)) := by unfold netD; rw [slD_t, cut_from, List.map_drop]
end Dv

/-! tables of up to 512 places: the round of i -> 5 i + 1 -/
namespace Sb
open PySem PySem.Spec PyProof.Rows L2
def MG (m : Nat) : Prop := MaskOk m ∨ m = 511
theorem MG.odd {m : Nat} (h : MG m) : m % 2 = 1 := by
  rcases h with h | rfl
  · exact mask_odd h
  · rfl
theorem MG.le {m : Nat} (h : MG m) : m ≤ 511 := by
  rcases h with (rfl | rfl | rfl) | rfl <;> omega
/-- the first k numbers of the round, each by the one ahead of it -/
def rnd : Nat → Nat → List Nat
  | 0, _ => []
  | k + 1, x => x :: rnd k ((x * 5 + 1) % 512)
theorem rnd_mem : ∀ (k a : Nat) {j : Nat}, j ∈ rnd k (lcgN 511 a) → ∃ b, b < k ∧ lcgN 511 (a + b) = j
  | 0, _, _, h => by cases h
  | k + 1, a, j, h => by
    rcases List.mem_cons.mp h with rfl | h
    · exact ⟨0, by omega, rfl⟩
    · obtain ⟨b, hb, e⟩ := rnd_mem k (a + 1) h
      exact ⟨b + 1, by omega, by rw [show a + (b + 1) = a + 1 + b by omega]; exact e⟩
theorem rnd_all : ((List.range 512).all fun j => (rnd 512 0).contains j) = true := by decide +kernel
theorem rnd_back : lcgN 511 512 = 0 := by decide +kernel
theorem big_all {j : Nat} (hj : j ≤ 511) : ∃ b, b ≤ 511 ∧ lcgN 511 b = j := by
  have h := List.all_eq_true.mp rnd_all j (List.mem_range.mpr (by omega))
  obtain ⟨b, hb, e⟩ := rnd_mem 512 0 (List.contains_iff_mem.mp h)
  exact ⟨b, by omega, by rw [← e, Nat.zero_add]⟩
theorem big_per : ∀ k, lcgN 511 (512 + k) = lcgN 511 k
  | 0 => rnd_back
  | k + 1 => by
    show (lcgN 511 (512 + k) * 5 + 1) % 512 = (lcgN 511 k * 5 + 1) % 512
    rw [big_per k]
theorem MG.round {m i j : Nat} (hm : MG m) (hi : i ≤ m) (hj : j ≤ m) : ∃ k, k ≤ m ∧ lcgI m i k = j := by
  rcases hm with h | rfl
  · exact lcgI_all h hi hj
  · obtain ⟨a, ha, rfl⟩ := big_all hi
    obtain ⟨b, hb, rfl⟩ := big_all hj
    by_cases c : a ≤ b
    · exact ⟨b - a, by omega, by rw [lcgN_add, show a + (b - a) = b by omega]⟩
    · exact ⟨b + 512 - a, by omega, by rw [lcgN_add, show a + (b + 512 - a) = 512 + b by omega, big_per]⟩
theorem MG.run {m : Nat} (hm : MG m) (h : Int) {j : Nat} (hj : j ≤ m) : ∃ n, n ≤ m + 12 ∧ runI m (SetTable.bits h) n = j := by
  obtain ⟨k, hk, e⟩ := hm.round (runI_le m (SetTable.bits h) 12) hj
  exact ⟨12 + k, by omega, (runI_tail (bits_lt h) k).trans e⟩
theorem MG.meets {m : Nat} (hm : MG m) (h : Int) {j : Nat} (hj : j ≤ m) : ∃ k, k < 10 * SetTable.turns m ∧ way m h k = j := by
  obtain ⟨n, hn, e⟩ := hm.run h hj
  obtain ⟨k, hk, e2⟩ := run_nth m (SetTable.bits h) n
  refine ⟨k, ?_, (congrArg SetTable.Probe.j e2).trans e⟩
  unfold SetTable.turns
  omega
theorem way_in {m : Nat} (h : Int) (k : Nat) : way m h k ≤ m := by
  have hi : SetTable.bits h % (m + 1) ≤ m := Nat.le_of_lt_succ (Nat.mod_lt _ (Nat.succ_pos _))
  have r := runEnd_bd hi
  have q := nth_in (m := m) k (runAt m (SetTable.bits h % (m + 1)) (SetTable.bits h)) (by unfold runAt; simp only; omega)
  exact Nat.le_trans (Nat.le_add_right _ _) q
end Sb

/-! tables of up to 512 places: found again, put in, laid anew -/
namespace Sb
open PySem PySem.Spec PyProof.Rows L2
/-- the place j stands on the way of the hash h, no empty place ahead of it -/
def Met (t : SetTable) (h : Int) (j : Nat) : Prop := ∃ k, way t.mask h k = j ∧ ∀ i, i < k → way t.mask h i ∈ t.place.toList
structure Tb (t : SetTable) (hs : List Int) : Prop where
  ris : Ris t.place.toList
  dm : t.dummies = #[]
  sz : t.place.size = hs.length
  mg : MG t.mask
  bd : ∀ x ∈ t.place.toList, x ≤ t.mask
  met : ∀ (i : Nat) (h : Int) (j : Nat), hs[i]? = some h → t.place.toList[i]? = some j → Met t h j
/-- K is the first empty place of the way -/
def First (t : SetTable) (h : Int) (K : Nat) : Prop := way t.mask h K ∉ t.place.toList ∧ ∀ i, i < K → way t.mask h i ∈ t.place.toList
variable {t : SetTable} {hs : List Int}
theorem Tb.len (T : Tb t hs) : t.place.toList.length = hs.length := by rw [Array.length_toList]; exact T.sz
theorem Tb.first (T : Tb t hs) (hl : hs.length ≤ t.mask) (h : Int) : ∃ K, K < 10 * SetTable.turns t.mask ∧ First t h K := by
  obtain ⟨j, hj, hn⟩ := st_missing t.place.toList (t.mask + 1) (by rw [T.len]; omega)
  obtain ⟨k, hk, rfl⟩ := T.mg.meets h (Nat.le_of_lt_succ hj)
  obtain ⟨K, h1, h2, h3⟩ := st_least (p := fun k => way t.mask h k ∉ t.place.toList) k hn
  exact ⟨K, by omega, h2, fun i hi => Classical.byContradiction fun z => h3 i hi z⟩
theorem Tb.before (T : Tb t hs) {h : Int} {K i j : Nat} (hK : way t.mask h K ∉ t.place.toList) (hi : hs[i]? = some h) (hj : t.place.toList[i]? = some j) : ∃ k, k < K ∧ way t.mask h k = j := by
  obtain ⟨k, e, hb⟩ := T.met i h j hi hj
  refine ⟨k, Classical.byContradiction fun z => ?_, e⟩
  by_cases c : K = k
  · rw [c, e] at hK
    exact hK (List.mem_of_getElem? hj)
  · exact hK (hb K (by omega))
/-- one put in at the first empty place -/
theorem Tb.put (T : Tb t hs) {h : Int} {K : Nat} (F : First t h K) (p : Nat) (hp : p = SetTable.below t.place (way t.mask h K)) :
    p ≤ hs.length ∧ Tb (t.put (way t.mask h K)).1 (hs.take p ++ h :: hs.drop p) := by
  subst hp
  have le : SetTable.below t.place (way t.mask h K) ≤ hs.length := by
    rw [← T.sz]
    exact (below_cut T.ris _).1
  have le2 : SetTable.below t.place (way t.mask h K) ≤ t.place.toList.length := by rw [T.len]; exact le
  have pl := put_place t (way t.mask h K)
  have up : ∀ {h' : Int} {j : Nat}, Met t h' j → Met (t.put (way t.mask h K)).1 h' j := fun ⟨k, e, b⟩ => ⟨k, e, fun i hi => by
    rw [pl]
    exact mem_ins.2 (.inr (b i hi))⟩
  refine ⟨le, ris_insert T.ris fun e => F.1 (List.mem_of_getElem? (by rw [Array.getElem?_toList]; exact e)), put_dm T.dm _, ?_, T.mg, fun x hx => ?_, fun i h' j' h1 h2 => ?_⟩
  · rw [← Array.length_toList, pl, len_ins _ le2, len_ins _ le, T.len]
  · rw [pl] at hx
    rcases mem_ins.1 hx with rfl | z
    · exact way_in h K
    · exact T.bd x z
  · rw [tins_get hs le] at h1
    rw [pl, tins_get _ le2] at h2
    by_cases c : i < SetTable.below t.place (way t.mask h K)
    · rw [if_pos c] at h1 h2
      exact up (T.met i h' j' h1 h2)
    · rw [if_neg c] at h1 h2
      by_cases d : i = SetTable.below t.place (way t.mask h K)
      · rw [if_pos d] at h1 h2
        cases h1
        cases h2
        exact up ⟨K, rfl, F.2⟩
      · rw [if_neg d] at h1 h2
        exact up (T.met (i - 1) h' j' h1 h2)
theorem put_fill (T : Tb t hs) {h : Int} {K : Nat} (F : First t h K) : (t.put (way t.mask h K)).1.fill = hs.length + 1 := by
  have e := (T.put F _ rfl).2
  have l := len_ins hs (T.put F _ rfl).1 h
  have s := e.sz
  rw [l] at s
  unfold SetTable.fill
  rw [s, e.dm]
  rfl
/-! laid anew -/
theorem free_B {m : Nat} (hm : MG m) (owner : Array (Option Nat)) (h : Int) {j : Nat} (hj : j ≤ m) (hf : oAt owner j = none) :
    ∃ K, SetTable.layClean.free m owner (SetTable.turns m) (SetTable.bits h % (m + 1)) (SetTable.bits h) = some (way m h K) ∧ oAt owner (way m h K) = none ∧ ∀ k, k < K → oAt owner (way m h k) ≠ none := by
  obtain ⟨n, hn, e⟩ := hm.run h hj
  have hw : way m h (off m (SetTable.bits h % (m + 1)) (SetTable.bits h) n) = j := by
    refine Eq.trans (congrArg SetTable.Probe.j (nth_off m n _ _)) ?_
    rw [itL_run]
    exact e
  obtain ⟨K, k1, k2, k3⟩ := st_least (p := fun k => oAt owner (way m h k) = none) (off m (SetTable.bits h % (m + 1)) (SetTable.bits h) n) (by rw [hw]; exact hf)
  refine ⟨K, free_spec m owner (SetTable.turns m) n _ _ K (by unfold SetTable.turns; omega) k1 (fun k hk => ?_) ?_, k2, k3⟩
  · exact Option.isNone_eq_false_iff.mpr (Option.isSome_iff_ne_none.mpr (k3 k hk))
  · exact Option.isNone_iff_eq_none.mpr k2
theorem own_step {m : Nat} (hm : MG m) {done : List Int} {owner : Array (Option Nat)} (O : Own m done owner) (hl : done.length ≤ m) (h : Int) :
    ∃ j, SetTable.layClean.free m owner (SetTable.turns m) (SetTable.bits h % (m + 1)) (SetTable.bits h) = some j ∧ Own m (done ++ [h]) (owner.setIfInBounds j (some done.length)) := by
  obtain ⟨ps, lp, ip⟩ := O.ps
  obtain ⟨j0, h0, n0⟩ := st_missing ps (m + 1) (by omega)
  obtain ⟨K, e1, e2, e3⟩ := free_B hm owner h (Nat.le_of_lt_succ h0) (Classical.byContradiction fun z => n0 (ip j0 (Nat.le_of_lt_succ h0) z))
  have jm : way m h K ≤ m := way_in h K
  have js : way m h K < owner.size := by rw [O.sz]; omega
  have self := oAt_set_self (some done.length) js
  have mono : ∀ {i : Nat}, oAt owner i ≠ none → oAt (owner.setIfInBounds (way m h K) (some done.length)) i ≠ none := fun {i} hi => by
    by_cases c : i = way m h K
    · rw [c, self]; exact Option.some_ne_none _
    · rw [oAt_set_ne _ c]; exact hi
  refine ⟨_, e1, by rw [Array.size_setIfInBounds]; exact O.sz, fun j k hj e => ?_, fun k hk => ?_, way m h K :: ps, by rw [List.length_cons, List.length_append, lp, List.length_singleton], fun j hj e => ?_⟩
  · by_cases c : j = way m h K
    · subst c
      rw [self] at e
      cases e
      exact ⟨h, K, by rw [List.getElem?_append_right (Nat.le_refl _), Nat.sub_self]; rfl, rfl, fun i hi => mono (e3 i hi)⟩
    · rw [oAt_set_ne _ c] at e
      obtain ⟨h', K', a1, a2, a3⟩ := O.at_ j k hj e
      exact ⟨h', K', by rw [List.getElem?_append_left (List.getElem?_eq_some_iff.mp a1).1]; exact a1, a2, fun i hi => mono (a3 i hi)⟩
  · rw [List.length_append, List.length_singleton] at hk
    by_cases c : k < done.length
    · obtain ⟨j, hj, e⟩ := O.all k c
      exact ⟨j, hj, by rw [oAt_set_ne _ fun z => by rw [z, e2] at e; cases e]; exact e⟩
    · exact ⟨_, jm, by rw [self, show k = done.length by omega]⟩
  · by_cases c : j = way m h K
    · rw [c]; exact List.mem_cons_self
    · rw [oAt_set_ne _ c] at e
      exact List.mem_cons_of_mem _ (ip j hj e)
theorem lay_fold {m : Nat} (hm : MG m) : ∀ (rest done : List Int) (owner : Array (Option Nat)), Own m done owner → done.length + rest.length ≤ m →
    ∃ o2, rest.foldl (stepF m) (some (owner, done.length)) = some (o2, (done ++ rest).length) ∧ Own m (done ++ rest) o2
  | [], done, owner, O, _ => ⟨owner, by rw [List.append_nil]; rfl, by rw [List.append_nil]; exact O⟩
  | h :: rest, done, owner, O, hl => by
    rw [List.length_cons] at hl
    obtain ⟨j, e, O1⟩ := own_step hm O (by omega) h
    obtain ⟨o2, f, O2⟩ := lay_fold hm rest (done ++ [h]) _ O1 (by rw [List.length_append, List.length_singleton]; omega)
    rw [List.append_cons] 
    refine ⟨o2, ?_, O2⟩
    rw [List.foldl_cons, stepF_some e, ← f, List.length_append, List.length_singleton]
/-- laid anew in a table of the mask M -/
theorem relaid_B (t : SetTable) {hs : Array Int} {wanted M : Nat} (hw : SetTable.sizeAbove wanted - 1 = M) (hM : MG M) (hn : hs.size ≤ M) :
    ∃ t2 order, t.relaid hs wanted = some (t2, order) ∧ order.toList.Perm (List.range hs.size) ∧ Tb t2 (order.toList.map fun i => hs.getD i 0) ∧ t2.mask = M ∧ t2.led = t.led ∧ t2.plain = t.plain := by
  obtain ⟨owner, f, O⟩ := lay_fold hM hs.toList [] _ (Own.init M) (by rw [Array.length_toList]; show 0 + hs.size ≤ M; omega)
  rw [List.nil_append] at f O
  have lc : SetTable.layClean M hs = some owner := by
    rw [layClean_eq, show (some (Array.replicate (M + 1) none, 0) : Option (Array (Option Nat) × Nat)) = some (Array.replicate (M + 1) none, ([] : List Int).length) from rfl, f]
    rfl
  have hr : t.relaid hs wanted = some (tabOf t M owner, ((liveOf M owner).map (·.2)).toArray) := by
    rw [relaid_eq, hw, lc]
    rfl
  obtain ⟨r1, r2⟩ := ris_live (fun j => owner.getD j none) (List.range (M + 1)) (by unfold Ris; exact List.pairwise_lt_range)
  have r1' : Ris ((liveOf M owner).map (·.1)) := r1
  have r2' : ∀ x ∈ (liveOf M owner).map (·.1), x ∈ List.range (M + 1) := r2
  have all2 : ∀ k, k < hs.size → k ∈ (liveOf M owner).map (·.2) := fun k hk => by
    obtain ⟨j, b1, b2⟩ := O.all k (by rw [Array.length_toList]; exact hk)
    exact List.mem_map.mpr ⟨(j, k), (mem_live O.sz).2 ⟨b1, b2⟩, rfl⟩
  have len : (liveOf M owner).length = hs.size := by
    obtain ⟨ps, p1, p2⟩ := O.ps
    have a := nat_nodup_len ((liveOf M owner).map Prod.fst) ps (List.Pairwise.imp (fun h => Nat.ne_of_lt h) r1') fun x hx => by
      obtain ⟨⟨y, k⟩, hq, rfl⟩ := List.mem_map.mp hx
      obtain ⟨b1, b2⟩ := (mem_live O.sz).1 hq
      exact p2 y b1 (by rw [b2]; exact Option.some_ne_none _)
    have b := nat_nodup_len (List.range hs.size) ((liveOf M owner).map (·.2)) List.nodup_range fun k hk => all2 k (List.mem_range.mp hk)
    rw [List.length_map, p1] at a
    rw [List.length_map, List.length_range] at b
    have z : hs.toList.length = hs.size := rfl
    omega
  refine ⟨_, _, hr, perm_range hs.size _ (by simpa using len) fun k hk => by simpa using all2 k hk, ⟨r1', rfl, ?_, hM, fun x hx => Nat.le_of_lt_succ (List.mem_range.mp (r2' x hx)), fun i h j h1 h2 => ?_⟩, rfl, rfl, rfl⟩
  · unfold tabOf
    simp
  · have h1' : (((liveOf M owner).map (·.2)).map fun i => hs.getD i 0)[i]? = some h := h1
    have h2' : ((liveOf M owner).map (·.1))[i]? = some j := h2
    rw [List.getElem?_map, List.getElem?_map] at h1'
    rw [List.getElem?_map] at h2'
    obtain ⟨⟨y, k⟩, hq, rfl⟩ := Option.map_eq_some_iff.mp h2'
    rw [hq] at h1'
    have eh : hs.getD k 0 = h := Option.some.inj h1'
    obtain ⟨b1, b2⟩ := (mem_live O.sz).1 (List.mem_of_getElem? hq)
    obtain ⟨h0, K, a1, a2, a3⟩ := O.at_ y k b1 b2
    have e0 : hs.getD k 0 = h0 := by
      rw [Array.getD_eq_getD_getElem?, ← Array.getElem?_toList, a1]
      rfl
    obtain rfl : h0 = h := e0.symm.trans eh
    refine ⟨K, a2, fun i' hi' => ?_⟩
    show way M h0 i' ∈ (liveOf M owner).map (·.1)
    obtain ⟨k2, z⟩ := Option.ne_none_iff_exists'.mp (a3 i' hi')
    exact List.mem_map.mpr ⟨(way M h0 i', k2), (mem_live O.sz).2 ⟨way_in h0 i', z⟩, rfl⟩
theorem size_308 : SetTable.sizeAbove (SetTable.grown 77) = 512 := by decide +kernel
end Sb

/-! sets of up to 300 tuples of ints: a search, one added -/
namespace Sb
open PySem PySem.Spec PyProof.Rows L2
abbrev hsOf (P : Program) (w : World) (L : List (Addr × List Int)) : List Int := L.map fun p => thash P w p.2
structure SetB (P : Program) (w : World) (h : Heap) (a : Addr) (L : List (Addr × List Int)) (es : Array (Int × Value)) (ep : Nat) (t : SetTable) : Prop where
  ob : ∃ o, h.get? a = some o ∧ o.ExactSet ∧ o.data = .set es ep t
  rows : es.toList = rowsOf P w L
  tab : Tb t (hsOf P w L)
  nd : (L.map (·.2)).Nodup
  tup : ∀ p ∈ L, IsT P w h p.2 p.1
  plain : t.plain = true
  led : w.params.followText "set-order" = true ∨ t.led = true
  room : L.length * 5 < t.mask * 3
  few : L.length ≤ 300
section
variable {P : Program} {w : World} {A : Around} {E : Value → Shared → Prop} {s : Shared} {a : Addr} {L : List (Addr × List Int)} {es : Array (Int × Value)} {ep : Nat} {t : SetTable}
theorem rows_size (h : es.toList = rowsOf P w L) : es.size = L.length := by
  rw [← Array.length_toList, h]
  exact List.length_map ..
theorem fits_of (T : Tb t (hsOf P w L)) (hs : es.size = L.length) (hl : L.length ≤ t.mask) : t.fits es.size = true := by
  have h1 := T.sz
  rw [List.length_map] at h1
  unfold SetTable.fits SetTable.fill
  rw [T.dm, Bool.and_eq_true, beq_iff_eq, decide_eq_true_eq]
  exact ⟨by omega, by show t.place.size + 0 ≤ t.mask; omega⟩
theorem SetB.fits (R : SetB P w s.heap a L es ep t) : t.fits es.size = true := fits_of R.tab (rows_size R.rows) (by have := R.room; omega)
theorem SetB.entry (R : SetB P w s.heap a L es ep t) {i : Nat} {p : Addr × List Int} (h : L[i]? = some p) : es[i]? = some (thash P w p.2, Value.ref p.1) := by
  rw [← Array.getElem?_toList, R.rows]
  unfold rowsOf
  rw [List.getElem?_map, h]
  rfl
theorem SetB.whole (R : SetB P w s.heap a L es ep t) : ¬ t.gaveWay = true := by
  unfold SetTable.gaveWay
  rw [R.tab.mg.odd]
  decide
theorem SetB.at_place (R : SetB P w s.heap a L es ep t) {i j : Nat} (h : t.place.toList[i]? = some j) : ∃ p, L[i]? = some p ∧ p ∈ L := by
  have h1 := (List.getElem?_eq_some_iff.mp h).1
  have h2 := R.tab.len
  rw [List.length_map] at h2
  exact ⟨L[i]'(by omega), List.getElem?_eq_getElem _, List.getElem_mem _⟩
theorem SetB.place_of (R : SetB P w s.heap a L es ep t) {i : Nat} {p : Addr × List Int} (h : L[i]? = some p) : ∃ j, t.place.toList[i]? = some j := by
  have h1 := (List.getElem?_eq_some_iff.mp h).1
  have h2 := R.tab.len
  rw [List.length_map] at h2
  exact ⟨t.place.toList[i]'(by omega), List.getElem?_eq_getElem _⟩
theorem nth_dummy (m : Nat) : ∀ (n : Nat) (p : SetTable.Probe), p.dummy = none → (nth m p n).dummy = none
  | 0, _, h => h
  | n + 1, p, h => nth_dummy m n (adv m p) (by unfold adv; split <;> exact h)
/-- the hash at an entry, as the probe asks for it -/
def hAt (es : Array (Int × Value)) (i : Nat) : Int := (es[i]?.map (·.1)).getD 0
/-- behind a candidate of equal hash -/
theorem rest_B (R : SetB P w s.heap a L es ep t) {x : Addr} {k : List Int} (hx : IsT P w s.heap k x) (hu : A.units < cLine) {j i f : Nat} {next : SetTable.Probe} {p : Addr × List Int} (hi : t.place.toList[i]? = some j) (hp : L[i]? = some p) {Q : SetFound → Shared → Prop}
    (same : p.2 = k → Q (.there none) s) (more : p.2 ≠ k → wpAny (model P w) A (setSearchFrom a (.ref x) (thash P w k) true f (some next)) Q E s) :
    wpAny (model P w) A (searchRest a (.ref x) (thash P w k) true f es t j i next) Q E s := by
  obtain ⟨o, ho, hex, hd⟩ := R.ob
  unfold searchRest
  rw [R.entry hp]
  dsimp only
  refine wpAny_bind (wpAny_holding (wpAny_eqBool_tuple hu (R.tup p (List.mem_of_getElem? hp)) hx ?_))
  refine wpAny_bind (wpAny_setState_of ho hd R.fits ?_)
  dsimp only
  by_cases c : p.2 = k
  · exact wp_if_pos (by simp [c]) (wpAny_pure (same c))
  · refine wp_if_neg (by simp [c]) ?_
    try refine wpAny_bind (wpAny_pure ?_)
    rw [sameMem]
    dsimp only
    simp only [if_true, slot_live R.tab.ris hi, R.entry hp]
    refine wpAny_bind (wpAny_isSame_ref_self (wpAny_bind (wpAny_pure ?_)))
    simp only [if_true]
    exact wp_if_neg (by simp [c]) (more c)
theorem from_B (R : SetB P w s.heap a L es ep t) {x : Addr} {k : List Int} (hx : IsT P w s.heap k x) (hu : A.units < cLine) {K : Nat} (hKf : K < 10 * SetTable.turns t.mask) (F : First t (thash P w k) K) {Q : SetFound → Shared → Prop}
    (hin : k ∈ L.map (·.2) → Q (.there none) s) (hout : k ∉ L.map (·.2) → Q (.free (way t.mask (thash P w k) K) false) s) :
    ∀ (f c : Nat) (stand : Option SetTable.Probe), stand.getD (t.probeStart (thash P w k)) = nth t.mask (t.probeStart (thash P w k)) c → c ≤ K → K - c < f →
      (∀ (i : Nat) p, L[i]? = some p → p.2 = k → ∃ e, c ≤ e ∧ e < K ∧ t.place.toList[i]? = some (way t.mask (thash P w k) e)) →
      wpAny (model P w) A (setSearchFrom a (.ref x) (thash P w k) true f stand) Q E s
  | 0, c, stand, _, _, hf, _ => absurd hf (Nat.not_lt_zero _)
  | f + 1, c, stand, hst, hc, hf, ahead => by
    obtain ⟨o, ho, hex, hd⟩ := R.ob
    rw [setSearchFrom_succ]
    refine wpAny_bind (wpAny_setState_of ho hd R.fits ?_)
    dsimp only
    refine wp_if_neg R.whole ?_
    try refine wpAny_bind (wpAny_pure ?_)
    have sh : ∀ q, nth t.mask (nth t.mask (t.probeStart (thash P w k)) c) q = nth t.mask (t.probeStart (thash P w k)) (c + q) := fun q => (nth_add t.mask c _ q).symm
    have wj : ∀ q, (nth t.mask (nth t.mask (t.probeStart (thash P w k)) c) q).j = way t.mask (thash P w k) (c + q) := fun q => congrArg SetTable.Probe.j (sh q)
    have spec := go_spec t R.tab.ris R.tab.dm (hAt es) (thash P w k) (10 * SetTable.turns t.mask) (K - c) (nth t.mask (t.probeStart (thash P w k)) c) (nth_dummy _ _ _ rfl) (by omega)
      (fun q hq => by rw [wj]; exact F.2 _ (by omega)) (by rw [wj, show c + (K - c) = K by omega]; exact F.1)
    have hashAt : ∀ {i : Nat} {p}, L[i]? = some p → hAt es i = thash P w p.2 := fun {i p} hp => by
      unfold hAt
      rw [R.entry hp]
      rfl
    rcases spec with ⟨q, i, hq, hi, hh, hno, hpr⟩ | ⟨hno, hpr⟩
    · have pr : t.probe (fun i => (es[i]?.map (·.1)).getD 0) (thash P w k) (stand.getD (t.probeStart (thash P w k))) = some (.candidate (way t.mask (thash P w k) (c + q)) i (nth t.mask (t.probeStart (thash P w k)) (c + (q + 1)))) := by
        rw [hst, ← wj, ← sh]
        exact hpr
      rw [pr]
      dsimp only
      rw [wj] at hi
      obtain ⟨p, hp, hm⟩ := R.at_place hi
      have go := rest_B (A := A) (E := E) (f := f) (next := nth t.mask (t.probeStart (thash P w k)) (c + (q + 1))) R hx hu hi hp (Q := Q) (fun e => hin (List.mem_map.mpr ⟨p, hm, e⟩)) fun ne => by
        refine from_B R hx hu hKf F hin hout f (c + (q + 1)) _ rfl (by omega) (by omega) fun i0 p0 h0 hk0 => ?_
        obtain ⟨e, a1, a2, a3⟩ := ahead i0 p0 h0 hk0
        refine ⟨e, Classical.byContradiction fun z => ?_, a2, a3⟩
        by_cases y : e = c + q
        · subst y
          have s0 := slot_live R.tab.ris a3
          rw [slot_live R.tab.ris hi] at s0
          injection s0 with s0
          rw [← s0, hp] at h0
          exact ne ((congrArg Prod.snd (Option.some.inj h0)).trans hk0)
        · refine hno (e - c) i0 (by omega) (by rw [wj, show c + (e - c) = e by omega]; exact a3) ?_
          rw [hashAt h0, hk0]
      by_cases hl : t.led = true
      · refine wp_if_neg (by simp [hl]) ?_
        try refine wpAny_bind (wpAny_pure ?_)
        exact go
      · refine wp_if_pos (by simp [hl]) ?_
        refine wpAny_bind (seen_tup hx (fun y hy => ?_) ?_)
        · obtain ⟨e, he, rfl⟩ := List.mem_map.mp hy
          have he2 : e ∈ es.toList := by
            have : e ∈ es ∧ e.1 = thash P w k := by simpa using he
            simpa using this.1
          rw [R.rows] at he2
          obtain ⟨p2, hp2, rfl⟩ := List.mem_map.mp he2
          exact ⟨p2.2, p2.1, rfl, R.tup p2 hp2⟩
        · refine wp_if_neg (by decide) ?_
          try refine wpAny_bind (wpAny_pure ?_)
          exact go
    · have pr : t.probe (fun i => (es[i]?.map (·.1)).getD 0) (thash P w k) (stand.getD (t.probeStart (thash P w k))) = some (.empty (way t.mask (thash P w k) K) none) := by
        rw [hst, show way t.mask (thash P w k) K = (nth t.mask (nth t.mask (t.probeStart (thash P w k)) c) (K - c)).j by rw [wj, show c + (K - c) = K by omega]]
        exact hpr
      rw [pr]
      dsimp only
      refine wpAny_pure (hout fun hm => ?_)
      obtain ⟨p0, h0, hk0⟩ := List.mem_map.mp hm
      obtain ⟨i0, hi0⟩ := List.mem_iff_getElem?.mp h0
      obtain ⟨e, a1, a2, a3⟩ := ahead i0 p0 hi0 hk0
      refine hno (e - c) i0 (by omega) (by rw [wj, show c + (e - c) = e by omega]; exact a3) ?_
      rw [hashAt hi0, hk0]
/-- the search as adding asks for it -/
theorem search_B (R : SetB P w s.heap a L es ep t) {x : Addr} {k : List Int} (hx : IsT P w s.heap k x) (hu : A.units < cLine) {Q : SetFound → Shared → Prop}
    (hin : k ∈ L.map (·.2) → Q (.there none) s) (hout : ∀ K, k ∉ L.map (·.2) → First t (thash P w k) K → Q (.free (way t.mask (thash P w k) K) false) s) :
    wpAny (model P w) A (setSearch a (.ref x) (thash P w k) true) Q E s := by
  obtain ⟨K, hKf, F⟩ := R.tab.first (by rw [List.length_map]; have := R.room; omega) (thash P w k)
  have big : K < 100000 := by
    have := R.tab.mg.le
    unfold SetTable.turns at hKf
    omega
  unfold setSearch
  refine from_B R hx hu hKf F hin (fun hn => hout K hn F) 100000 0 none rfl (Nat.zero_le _) (by omega) fun i p hp hk => ?_
  obtain ⟨j, hj⟩ := R.place_of hp
  obtain ⟨c, hc, e⟩ := R.tab.before F.1 (h := thash P w k) (by show (L.map _)[i]? = _; rw [List.getElem?_map, hp, ← hk]; rfl) hj
  exact ⟨c, Nat.zero_le _, hc, by rw [hj, e]⟩
end
end Sb

/-! sets of up to 300 tuples of ints: laid anew, one added -/
namespace Sb
open PySem PySem.Spec PyProof.Rows L2
section
variable {P : Program} {w : World} {A : Around} {E : Value → Shared → Prop} {s : Shared} {a : Addr} {L : List (Addr × List Int)} {es : Array (Int × Value)} {ep : Nat} {t : SetTable}
/-- what the set keeps whatever the table's size -/
structure Body (P : Program) (w : World) (h : Heap) (L : List (Addr × List Int)) (es : Array (Int × Value)) (t : SetTable) : Prop where
  rows : es.toList = rowsOf P w L
  tab : Tb t (hsOf P w L)
  nd : (L.map (·.2)).Nodup
  tup : ∀ p ∈ L, IsT P w h p.2 p.1
  plain : t.plain = true
  led : w.params.followText "set-order" = true ∨ t.led = true
  few : L.length ≤ 300
theorem Body.set {h : Heap} {o : Obj} (B : Body P w h L es t) (ho : h.get? a = some o) (hex : o.ExactSet) (hd : o.data = .set es ep t) (hr : L.length * 5 < t.mask * 3) : SetB P w h a L es ep t :=
  ⟨⟨o, ho, hex, hd⟩, B.rows, B.tab, B.nd, B.tup, B.plain, B.led, hr, B.few⟩
theorem relay_B {o : Obj} (ho : s.heap.get? a = some o) (hex : o.ExactSet) (hd : o.data = .set es ep t) (B : Body P w s.heap L es t) (hf : L.length ≤ t.mask) {wanted M : Nat}
    (hw : SetTable.sizeAbove wanted = M + 1) (hM : MG M) (hn : L.length * 5 < M * 3) {Q : Unit → Shared → Prop}
    (hQ : ∀ h' L' es' ep' t', Heap.SameBut a s.heap h' → SetB P w h' a L' es' ep' t' → L'.Perm L → Q () { s with heap := h' }) : wpAny (model P w) A (setRelay a wanted) Q E s := by
  have hsl := rows_size B.rows
  have lM := hM.le
  have few := B.few
  obtain ⟨t', order, e, hp, T, em, el, epl⟩ := relaid_B t (hs := es.map (·.1)) (wanted := wanted) (M := M) (by omega) hM (by rw [Array.size_map, hsl]; omega)
  rw [Array.size_map, hsl] at hp
  obtain ⟨L2, r1, r2, r3⟩ := order_rows L es order B.rows hp
  rw [← r3] at T
  have hs2 : (order.filterMap (es[·]?)).size = es.size := by rw [rows_size r1, r2.length_eq, hsl]
  rw [setRelay_eq]
  refine wpAny_bind (wpAny_setState_of ho hd (fits_of B.tab hsl hf) ?_)
  dsimp only
  refine wp_if_neg (by rw [sizeLine_eq]; omega) ?_
  try refine wpAny_bind (wpAny_pure ?_)
  rw [e]
  dsimp only
  refine wpAny_bind ?_
  refine wp_if_neg (by rw [hs2]; simp) ?_
  try refine wpAny_bind (wpAny_pure ?_)
  refine wpAny_pure ?_
  dsimp only
  refine wpAny_storeSet_of ho hd ?_ (by rw [hs2, hsl, sizeLine_eq]; omega)
  have sb : Heap.SameBut a s.heap (s.heap.update a (Obj.putSet (order.filterMap (es[·]?)) t')) := Heap.SameBut.update ..
  have B2 : Body P w (s.heap.update a (Obj.putSet (order.filterMap (es[·]?)) t')) L2 (order.filterMap (es[·]?)) t' :=
    ⟨r1, T, (r2.map (·.2)).nodup_iff.mpr B.nd, fun p hpm => isT_same (B.tup p (r2.mem_iff.mp hpm)) ho hd sb, epl.trans B.plain, by rw [el]; exact B.led, by rw [r2.length_eq]; exact few⟩
  exact hQ _ L2 (order.filterMap (es[·]?)) (ep + 1) t' sb (B2.set (store_at ho hd) ⟨hex.1, hex.2.1, hex.2.2⟩ rfl (by rw [r2.length_eq, em]; exact hn)) r2
theorem add_B (R : SetB P w s.heap a L es ep t) {x : Addr} {k : List Int} (hx : IsT P w s.heap k x) (hu : A.units < cLine) (hfew : L.length + 1 ≤ 300) {Q : Bool → Shared → Prop}
    (hQ : ∀ b h' L' es' ep' t', Heap.SameBut a s.heap h' → SetB P w h' a L' es' ep' t' → (k ∈ L.map (·.2) → L' = L) → (k ∉ L.map (·.2) → L'.Perm ((x, k) :: L)) → Q b { s with heap := h' }) :
    wpAny (model P w) A (setAddHashed a (.ref x) (thash P w k)) Q E s := by
  obtain ⟨o, ho, hex, hd⟩ := R.ob
  have hsl := rows_size R.rows
  have room := R.room
  unfold setAddHashed
  refine wpAny_holding ?_
  rw [show (100000 : Nat) = 99999 + 1 from rfl, setAddHashedIn_succ]
  refine wpAny_bind (wpAny_setState_of ho hd R.fits ?_)
  dsimp only
  refine wp_if_neg (by simp [byScan, Value.scannable]) ?_
  try refine wpAny_bind (wpAny_pure ?_)
  refine wpAny_bind (search_B R hx hu (fun hm => ?_) fun K hm F => ?_)
  · dsimp only
    exact wpAny_pure (hQ false s.heap L es ep t (Heap.SameBut.refl a s.heap) R (fun _ => rfl) fun z => absurd hm z)
  · dsimp only
    refine wpAny_bind (wpAny_setState_of ho hd R.fits ?_)
    dsimp only
    -- the table behind it
    obtain ⟨p, hp⟩ : ∃ p, p = SetTable.below t.place (way t.mask (thash P w k) K) := ⟨_, rfl⟩
    obtain ⟨q2, q3⟩ := R.tab.put F p hp
    have q9 := put_fill R.tab F
    have q4 : (t.put (way t.mask (thash P w k) K)).1.mask = t.mask := rfl
    have q5 : (t.put (way t.mask (thash P w k) K)).1.led = t.led := rfl
    have q6 : (t.put (way t.mask (thash P w k) K)).1.plain = true := R.plain
    have q1 : (t.put (way t.mask (thash P w k) K)).2 = p := hp.symm
    clear hp
    generalize t.put (way t.mask (thash P w k) K) = pt at q1 q3 q4 q5 q6 q9 ⊢
    obtain ⟨t1, p1⟩ := pt
    dsimp only at q1 q3 q4 q5 q6 q9 ⊢
    subst q1
    first
      | (refine wpAny_bind ?_; refine wp_if_pos q6 ?_; refine hashBy_tup hx ?_)
      | refine wp_if_pos q6 (wpAny_bind (hashBy_tup hx ?_))
    simp only [if_true]
    have pm := put_perm L p1 (x, k)
    have hin : (SetTable.insertAt es p1 (thash P w k, Value.ref x)).toList = rowsOf P w (L.take p1 ++ (x, k) :: L.drop p1) := by
      rw [SetTable.toList_insertAt, rows_put, R.rows]
    have hhs : hsOf P w (L.take p1 ++ (x, k) :: L.drop p1) = (hsOf P w L).take p1 ++ thash P w k :: (hsOf P w L).drop p1 := by
      unfold hsOf
      rw [List.map_append, List.map_cons, List.map_take, List.map_drop]
    rw [← hhs] at q3
    have nd1 : ((L.take p1 ++ (x, k) :: L.drop p1).map (·.2)).Nodup := (pm.map (·.2)).nodup_iff.mpr (List.nodup_cons.mpr ⟨hm, R.nd⟩)
    have hlen : (L.take p1 ++ (x, k) :: L.drop p1).length = L.length + 1 := pm.length_eq
    have hes := rows_size hin
    rw [hlen] at hes
    generalize SetTable.insertAt es p1 (thash P w k, Value.ref x) = es1 at hin hes ⊢
    generalize L.take p1 ++ (x, k) :: L.drop p1 = L1 at pm hlen q3 nd1 hin
    refine wpAny_bind (wpAny_storeSet_of ho hd ?_ (by rw [hes, sizeLine_eq]; omega))
    have sb : Heap.SameBut a s.heap (s.heap.update a (Obj.putSet es1 t1)) := Heap.SameBut.update ..
    have ho1 := store_at (es' := es1) (t' := t1) ho hd
    generalize s.heap.update a (Obj.putSet es1 t1) = h1 at sb ho1 ⊢
    have B1 : Body P w h1 L1 es1 t1 := ⟨hin, q3, nd1, fun p hp => by
      rcases List.mem_cons.mp (pm.mem_iff.mp hp) with rfl | hp
      · exact isT_same hx ho hd sb
      · exact isT_same (R.tup p hp) ho hd sb, q6, by rw [q5]; exact R.led, by omega⟩
    rw [show (hsOf P w L).length = L.length from List.length_map ..] at q9
    have hfull : t1.tooFull = true ↔ (L.length + 1) * 5 ≥ t.mask * 3 := by
      unfold SetTable.tooFull
      rw [decide_eq_true_eq, q9, q4]
    by_cases hf : t1.tooFull = true
    · first
        | (refine wpAny_bind ?_; refine wp_if_pos (by simp [hf]) ?_)
        | (refine wp_if_pos (by simp [hf]) ?_; refine wpAny_bind ?_)
      have full := hfull.mp hf
      rw [hsl]
      have go : ∀ M, SetTable.sizeAbove (SetTable.grown (L.length + 1)) = M + 1 → MG M → (L.length + 1) * 5 < M * 3 →
          wpAny (model P w) A (setRelay a (SetTable.grown (L.length + 1))) (fun _ s' => wpAny (model P w) A (pure true) Q E s') E { s with heap := h1 } := fun M a1 a2 a3 =>
        relay_B (s := { s with heap := h1 }) ho1 ⟨hex.1, hex.2.1, hex.2.2⟩ rfl B1 (by rw [q4, hlen]; omega) a1 a2 (by rw [hlen]; exact a3) fun h2 L2 es2 ep2 t2 sb2 R2 pm2 =>
          wpAny_pure (hQ true h2 L2 es2 ep2 t2 (sb.trans sb2) R2 (fun z => absurd z hm) fun _ => pm2.trans pm)
      rcases R.tab.mg with (e | e | e) | e <;> rw [e] at full room
      · have e2 : L.length = 4 := by omega
        exact go 31 (by rw [e2]; exact size_20) (.inl (.inr (.inl rfl))) (by omega)
      · have e2 : L.length = 18 := by omega
        exact go 127 (by rw [e2]; exact size_76) (.inl (.inr (.inr rfl))) (by omega)
      · have e2 : L.length = 76 := by omega
        exact go 511 (by rw [e2]; exact size_308) (.inr rfl) (by omega)
      · omega
    · have room1 : L1.length * 5 < t1.mask * 3 := by
        have z : ¬ ((L.length + 1) * 5 ≥ t.mask * 3) := fun z => hf (hfull.mpr z)
        rw [hlen, q4]
        omega
      first
        | refine wp_if_neg (by simp [hf]) ?_
        | (refine wpAny_bind ?_; refine wp_if_neg (by simp [hf]) ?_; refine wpAny_pure ?_)
      exact wpAny_pure (hQ true h1 L1 es1 (ep + 1) t1 sb (B1.set ho1 ⟨hex.1, hex.2.1, hex.2.2⟩ rfl room1) (fun z => absurd z hm) fun _ => pm)
end
end Sb

/-! set(xs), sorted(set): up to 300 tuples of ints -/
namespace Sb
open PySem PySem.Spec PyProof.Rows L2
section
variable {P : Program} {w : World} {A : Around} {E : Value → Shared → Prop} {s : Shared}
theorem SetB.keep {h h' : Heap} {a : Addr} {L : List (Addr × List Int)} {es : Array (Int × Value)} {ep : Nat} {t : SetTable} (R : SetB P w h a L es ep t) (ha : ∀ o, h.get? a = some o → h'.get? a = some o) (ht : ∀ p ∈ L, IsT P w h' p.2 p.1) : SetB P w h' a L es ep t :=
  let ⟨o, ho, r⟩ := R.ob
  ⟨⟨o, ha o ho, r⟩, R.rows, R.tab, R.nd, ht, R.plain, R.led, R.room, R.few⟩
def newSet (w : World) : Obj := { cls := .type "set", dict := none, data := .set #[] 0 (.fresh 0 0 (!w.params.followText "set-order")) }
theorem setB_fresh {h : Heap} {a : Addr} (ho : h.get? a = some (newSet w)) : SetB P w h a [] #[] 0 (.fresh 0 0 (!w.params.followText "set-order")) where
  ob := ⟨_, ho, ⟨rfl, rfl, rfl⟩, rfl⟩
  rows := rfl
  tab := ⟨List.Pairwise.nil, rfl, rfl, .inl (.inl rfl), fun x hx => (nomatch hx), fun i h j hi => (nomatch hi)⟩
  nd := List.nodup_nil
  tup := fun p hp => nomatch hp
  plain := rfl
  led := by
    show _ ∨ (!w.params.followText "set-order") = true
    cases w.params.followText "set-order"
    · exact .inr rfl
    · exact .inl rfl
  room := by show 0 * 5 < 7 * 3; decide
  few := Nat.zero_le _
/-- what stands when i items are in -/
def Has (P : Program) (w : World) (ks : List (Addr × List Int)) (S : Addr) (i : Nat) (h : Heap) : Prop := ∃ L es ep t, SetB P w h S L es ep t ∧ Got ks i L
theorem update_B {I : Addr} {fp wr : List Addr} {G : Array GenState → Array GenState → Prop} {n : Nat} {Pv : Nat → Value → Prop} {St : Nat → Shared → Prop} {R : Result → Shared → Prop}
    (W : WalksS P w A.in1 I fp wr G n Pv St) (S : Addr) (hSf : S ∉ fp) (ks : List (Addr × List Int)) (hn : n = ks.length) (hfew : ks.length ≤ 300) (hval : ∀ i v, Pv i v → ∃ p, ks[i]? = some p ∧ v = .ref p.1)
    (h0 : Heap) (hk : ∀ p ∈ ks, IsT P w h0 p.2 p.1) (hS0 : h0.get? S = none) (hw0 : ∀ b ∈ wr, h0.get? b = none) (hu : A.in1.units < cLine) :
    ∀ (k i : Nat) (s : Shared), n - i = k → i ≤ n → St i s → (∀ b o, h0.get? b = some o → s.heap.get? b = some o) → Has P w ks S i s.heap →
      (∀ s', Moved (S :: wr) G s s' → Has P w ks S n s'.heap → (∀ b o, h0.get? b = some o → s'.heap.get? b = some o) → R (.ok (.ret .none)) s') →
      codeAny (model P w) A (.builtin "set.update.loop" ⟨[.ref S, .ref I], []⟩) R s := by
  have hSw : S ∉ wr := fun h => hSf (W.sub _ h)
  have sub : ∀ b ∈ wr, b ∈ S :: wr := fun b hb => List.mem_cons_of_mem _ hb
  have old : ∀ {s s' : Shared}, Moved wr G s s' → (∀ b o, h0.get? b = some o → s.heap.get? b = some o) → ∀ b o, h0.get? b = some o → s'.heap.get? b = some o := fun hm hkp b o e =>
    hm.heap b o (fun hb => by rw [hw0 b hb] at e; cases e) (hkp b o e)
  have again : ∀ {i : Nat} {s s' : Shared} {L : List (Addr × List Int)} {es : Array (Int × Value)} {ep : Nat} {t : SetTable}, Moved wr G s s' → (∀ b o, h0.get? b = some o → s'.heap.get? b = some o) → SetB P w s.heap S L es ep t → Got ks i L → SetB P w s'.heap S L es ep t := fun hm hkp R g =>
    R.keep (fun o e => hm.heap S o hSw e) fun p hp => isT_keep (hk p (List.mem_of_mem_take (g.sub p hp))) hkp
  intro k
  induction k with
  | zero =>
    intro i s hk' hi hst hkp ⟨L, es, ep, t, hS, g⟩ hR
    obtain rfl : i = n := by omega
    refine codeAny_builtin F.entry_set_update_loop ?_
    rw [Around.under_plainId F.plain_set_update_loop _]
    show wpAny _ A.in1 (pyNext (.ref I) >>= _) _ _ s
    refine wpAny_bind (W.done s _ _ hst fun s' hm => ?_)
    show wpAny _ A.in1 (ret Value.none) _ _ s'
    have hkp' := old hm hkp
    exact wpAny_pure (hR s' (hm.mono sub) ⟨L, es, ep, t, again hm hkp' hS g, g⟩ hkp')
  | succ k ih =>
    intro i s hk' hi hst hkp ⟨L, es, ep, t, hS, g⟩ hR
    have hlt : i < n := by omega
    refine codeAny_builtin F.entry_set_update_loop ?_
    rw [Around.under_plainId F.plain_set_update_loop _]
    show wpAny _ A.in1 (pyNext (.ref I) >>= _) _ _ s
    refine wpAny_bind (W.item i s _ _ hlt hst fun v s' hP hst' hm => ?_)
    obtain ⟨p, hp, rfl⟩ := hval i v hP
    have hkp' := old hm hkp
    have hS1 := again hm hkp' hS g
    have hx : IsT P w s'.heap p.2 p.1 := isT_keep (hk p (List.mem_of_getElem? hp)) hkp'
    show wpAny _ A.in1 (holding [Value.ref p.1] (setAdd S (.ref p.1)) >>= _) _ _ s'
    refine wpAny_bind (wpAny_holding ?_)
    unfold setAdd
    refine wpAny_holding (wpAny_bind (wpAny_pyHash_tuple hu hx ?_))
    refine add_B (s := { s' with toks := s'.toks + (p.2.length + 1) }) hS1 hx hu (by have := g.len; omega) fun b h' L' es' ep' t' hsb hS2 c1 c2 => ?_
    have g' : Got ks (i + 1) L' := by
      by_cases c : p.2 ∈ L.map (·.2)
      · rw [c1 c]; exact g.same hp c
      · exact g.more hp (c2 c)
    have hkp2 : ∀ b o, h0.get? b = some o → h'.get? b = some o := fun b o e => (hsb.2 b (fun z => by rw [z, hS0] at e; cases e)).trans (hkp' b o e)
    refine wpAny_pure ⟨plainId_quiet F.plain_set_update_loop _, ih (i + 1) _ (by omega) hlt (W.frame _ s' _ _ hst' (Nat.le_add_right _ _) fun b hb o e => ?_) hkp2 ⟨L', es', ep', t', hS2, g'⟩ fun s2 hm2 has2 k2 => hR s2 (Moved.trans W.gtrans ((hm.mono sub).then_heap (Nat.le_add_right _ _) fun b o hb e => ?_) hm2) has2 k2⟩
    · exact (hsb.2 b fun z => hSf (by rw [← z]; exact hb)).trans e
    · exact (hsb.2 b fun z => hb (by rw [z]; exact List.mem_cons_self)).trans e
/-- set(xs), xs a list (the library's steps for fewer items, turned) -/
theorem call_set_B {l : Addr} {items : Array Value} (ks : List (Addr × List Int)) {Q : Value → Shared → Prop} (hh : A.handled = none) (hl : s.heap.IsList l items) (hit : items.toList = ks.map fun p => Value.ref p.1)
    (hk : ∀ p ∈ ks, IsT P w s.heap p.2 p.1) (hfew : ks.length ≤ 300) (hu : A.units + 3 < cLine)
    (h : ∀ (h' : Heap) (tk : Nat), Has P w ks s.heap.objs.size ks.length h' → (∀ b o, s.heap.get? b = some o → h'.get? b = some o) → Q (.ref s.heap.objs.size) { s with heap := h', toks := tk }) :
    wpAny (model P w) A (call (.type "set") [.ref l]) Q E s := by
  have hisz : items.size = ks.length := by
    have q := congrArg List.length hit
    rwa [Array.length_toList, List.length_map] at q
  obtain ⟨c, tl, hmro⟩ := F.called_set.mro
  have hmade := F.called_set.made
  have hsub := F.called_set.sub
  refine wpAny_call (codeAny_of_tree ?_)
  show wpAny _ _ (callAny (.type "set") _) _ _ _
  refine wpAny_pure ⟨Code.quiet_builtin _ (by decide +kernel), codeAny_builtin F.entry_type_call ?_⟩
  rw [Around.under_plain (weight_type_call_type "set" [.ref l] []) rfl]
  have h1 := F.called_set.notType
  have h2 := F.called_set.canCreate
  have hct := F.typeCall_set_1 (.ref l)
  repeat (any_goals (first | assumption | wp_step))

  refine codeAny_mono (code_set_led1 (.ref l) (E := E) (Q₁ := fun obj s₁ => obj = .ref s.heap.objs.size ∧ s₁ = { s with heap := s.heap.push (newSet w) }) ⟨rfl, rfl⟩) fun r s₁ hr => ?_
  cases r with
  | error e => exact hr
  | ok fl =>
    cases fl with
    | ret obj =>
      obtain ⟨rfl, rfl⟩ := hr
      have hS : (s.heap.push (newSet w)).get? s.heap.objs.size = some (newSet w) := Heap.get?_push_size _ rfl
      have hT : Shared.TypeIs { s with heap := s.heap.push (newSet w) } (.ref s.heap.objs.size) "set" := ⟨_, hS, rfl⟩
      have hli := F.called_set.init.lookup
      have hbi := F.called_set.init.bind (.ref s.heap.objs.size)
      repeat (any_goals (first | assumption | wp_step))

      refine codeAny_mono (codeAny_call_builtin (R := wants (fun r s₂ => r = .none ∧ ∃ h' tk, s₂ = { s with heap := h', toks := tk } ∧ Has P w ks s.heap.objs.size ks.length h' ∧ (∀ b o, s.heap.get? b = some o → h'.get? b = some o)) E) F.called_set.init.plain F.entry_set_init (check_set_init_1 hT ?_)) fun r₂ s₂ hr₂ => ?_
      · have hlS : l < s.heap.objs.size := let ⟨_, q, _⟩ := hl; Heap.lt_size q
        obtain ⟨ol, hol, hcl, nl, hdl⟩ := hl
        obtain ⟨ocls, odict, odata, oslots⟩ := ol
        simp only at hcl hdl
        subst hcl; subst hdl
        have hol' : (s.heap.push (newSet w)).get? l = some { cls := .type "list", dict := odict, data := .seq items nl, slots := oslots } := Heap.get?_push_of_some _ hol
        have hsls := F.sub_list_set
        have hslf := F.sub_list_frozenset
        have hne : (Value.type "list" == Value.type "dict") = false := by decide
        have hl1 : (s.heap.push (newSet w)).IsList l items := ⟨_, hol', rfl, nl, rfl⟩
        unfold Builtin.«set.__init__» noKeywords Builtin.Frozenset.updateFrom
        generalize hPI : pyIter = PI
        wp_walk
        subst hPI

        refine wpAny_pyIter_list hl1 (wpAny_bind (wpAny_runValue ?_))
        have hh3 : A.in1.in1.in1.handled = none := by simp [hh]
        have hz1 : (s.heap.push (newSet w)).objs.size = s.heap.objs.size + 1 := Heap.size_push ..
        have neI : l ≠ (s.heap.push (newSet w)).objs.size := by rw [hz1]; exact Nat.ne_of_lt (Nat.lt_succ_of_lt hlS)
        have notF : s.heap.objs.size ∉ [(s.heap.push (newSet w)).objs.size, l] := by
          rw [hz1]
          simp only [List.mem_cons, List.not_mem_nil, or_false, not_or]
          exact ⟨Nat.ne_of_lt (Nat.lt_succ_self _), Nat.ne_of_gt hlS⟩
        have hval : ∀ (i : Nat) (v : Value), items[i]? = some v → ∃ p, ks[i]? = some p ∧ v = .ref p.1 := fun i v hv => by
          have q : items.toList[i]? = some v := by rw [Array.getElem?_toList]; exact hv
          rw [hit, List.getElem?_map] at q
          obtain ⟨p, hp, rfl⟩ := Option.map_eq_some_iff.mp q
          exact ⟨p, hp, rfl⟩
        have none_of : ∀ b, s.heap.objs.size ≤ b → s.heap.get? b = none := fun b hb => by
          cases q : s.heap.get? b with
          | none => rfl
          | some o => exact absurd (Heap.lt_size q) (Nat.not_lt.mpr hb)
        refine update_B ((Walks.list hh3 _ l neI items).toS) s.heap.objs.size notF ks hisz hfew hval s.heap hk (none_of _ (Nat.le_refl _)) (fun b hb => none_of b (by rw [List.mem_singleton.mp hb, hz1]; exact Nat.le_succ _)) hu (items.size - 0) 0 _ (by omega) (Nat.zero_le _)
          ⟨⟨_, Heap.get?_push_size _ rfl, rfl, rfl⟩, (hl1.push _)⟩ (fun b o e => Heap.get?_push_of_some _ (Heap.get?_push_of_some _ e)) ?hS0 ?hR
        case hS0 => exact ⟨[], #[], 0, _, setB_fresh (Heap.get?_push_of_some _ hS), Got.zero ks⟩
        case hR =>
          intro s' hm has hkp
          obtain ⟨h', g2, d', tk', os'⟩ := s'
          obtain rfl : g2 = s.gens := hm.gens
          obtain rfl : d' = s.drawn := hm.drawn
          obtain rfl : os' = s.os := hm.os
          show wpAny _ _ _ _ _ _
          refine wpAny_pure ?_
          show wpAny _ _ (ret Value.none) _ _ _
          rw [hisz] at has
          exact wpAny_pure ⟨rfl, h', tk', rfl, has, hkp⟩

      · cases r₂ with
        | error e => exact hr₂
        | ok fl₂ =>
          cases fl₂ with
          | ret r =>
            obtain ⟨rfl, h', tk, rfl, has, hk'⟩ := hr₂
            repeat (any_goals (first | assumption | wp_step))
            exact h _ _ has hk'
          | _ => exact hr₂.elim
    | _ => exact hr.elim
end
end Sb

/-! sorted(set(xs)) of up to 300 tuples of ints, as data -/
namespace Sb
open PySem PySem.Spec PyProof.Rows L2
abbrev rowT (p : Addr × List Int) : PyData := .tuple (p.2.map .int)
theorem ints_read {h : Heap} {vs : List Value} {k : List Int} (e : IntsAre vs k) : ReadsAll h vs (k.map .int) [] := by
  induction e with
  | nil => exact .nil
  | cons i t _ ih => exact .cons (.int i t) ih
theorem isT_read {P : Program} {w : World} {h : Heap} {k : List Int} {b : Addr} (x : IsT P w h k b) : Reads h (.ref b) (.tuple (k.map .int)) [] :=
  let ⟨o, items, n, ho, hc, hd, hi⟩ := x
  .tuple ho hc hd (ints_read (ints_of_items hi))
theorem each_refs {h : Heap} {a : Addr} {P : Program} {w : World} : ∀ {L : List (Addr × List Int)}, (∀ p ∈ L, IsT P w h p.2 p.1) →
    W.EachIs (fun v p => v = Value.ref p.1) (L.map fun p => Value.ref p.1) L ∧ W.EachIs (fun v p => ∃ as, Reads h v (rowT p) as ∧ a ∉ as) (L.map fun p => Value.ref p.1) L
  | [], _ => ⟨.nil, .nil⟩
  | p :: L, t => by
    obtain ⟨h1, h2⟩ := each_refs (a := a) (L := L) fun q hq => t q (List.mem_cons_of_mem _ hq)
    exact ⟨.cons rfl h1, .cons ⟨[], isT_read (t p List.mem_cons_self), fun z => nomatch z⟩ h2⟩
theorem refs_of_each : ∀ {out : List Value} {L : List (Addr × List Int)}, W.EachIs (fun v p => v = Value.ref p.1) out L → out = L.map fun p => Value.ref p.1
  | _, _, .nil => rfl
  | _, _, .cons r t => by rw [r, refs_of_each t]; rfl
theorem le_rows : W.dataLe false rowT = fun p q => decide (p.2 ≤ q.2) := by
  funext p q
  show (!W.dataLt (.tuple (q.2.map .int)) (.tuple (p.2.map .int))) = _
  rw [W.dataLt_tuple]
  show (!W.rowLt (q.2.map .int) (p.2.map .int)) = _
  rw [W.dataLt_ints, Bool.eq_iff_iff, Bool.not_eq_true', decide_eq_false_iff_not, decide_eq_true_eq]
  exact List.not_lt
theorem lex_iff : ∀ {a b : List Int}, Dv.lexLe a b = true ↔ a ≤ b
  | [], b => by simp [Dv.lexLe, List.nil_le]
  | x :: a, [] => by simp [Dv.lexLe]
  | x :: a, y :: b => by rw [Dv.lexLe_cons, List.cons_le_cons_iff, lex_iff (a := a)]
theorem lift_perm {α β : Type} {f : α → β} {l1 l2 : List β} (h : l1.Perm l2) : ∀ l : List α, l.map f = l1 → ∃ l' : List α, l'.Perm l ∧ l'.map f = l2 := by
  induction h with
  | nil => exact fun l e => ⟨l, .refl _, e⟩
  | cons x _ ih =>
    intro l e
    match l, e with
    | a :: l, e =>
      rw [List.map_cons] at e
      injection e with e1 e2
      obtain ⟨l', p, q⟩ := ih l e2
      exact ⟨a :: l', p.cons a, by rw [List.map_cons, q, e1]⟩
  | swap x y t =>
    intro l e
    match l, e with
    | a :: b :: l, e =>
      rw [List.map_cons, List.map_cons] at e
      injection e with e1 e2
      injection e2 with e2 e3
      exact ⟨b :: a :: l, .swap _ _ _, by rw [List.map_cons, List.map_cons, e1, e2, e3]⟩
  | trans _ _ ih1 ih2 =>
    intro l e
    obtain ⟨l', p, q⟩ := ih1 l e
    obtain ⟨l2, p2, q2⟩ := ih2 l' q
    exact ⟨l2, p2.trans p, q2⟩
section
variable {P : Program} {w : World} {A : Around} {E : Value → Shared → Prop} {s : Shared}
theorem sorted_B {a : Addr} {L : List (Addr × List Int)} {es : Array (Int × Value)} {ep : Nat} {t : SetTable} {Q : Value → Shared → Prop} (R : SetB P w s.heap a L es ep t) (hh : A.handled = none) (hu : A.units + 64 < cLine) (hne : ∀ p ∈ L, p.2 ≠ [])
    (hQ : ∀ s' p (out : Array Value) (c : Nat) (L' : List (Addr × List Int)), (∀ b o, s.heap.get? b = some o → s'.heap.get? b = some o) → s'.gens = s.gens → s'.os = s.os → s.heap.objs.size ≤ p →
      s'.heap.get? p = some (seqObj "list" out c) → out.toList = L'.map (fun q => Value.ref q.1) → L'.Perm L → L'.Pairwise (fun q r => Dv.lexLe q.2 r.2 = true) → Q (.ref p) s') :
    wpAny (model P w) A (call (.builtin "sorted") [.ref a]) Q E s := by
  obtain ⟨o, ho, hex, hd⟩ := R.ob
  have hsz := rows_size R.rows
  have few := R.few
  refine Calls.call_function_entry kind_sorted plain_sorted entry_sorted (args_sorted1 _) ?_
  unfold Builtin.«sorted»
  refine wpAny_bind (m := checkCount "sorted" 1 1 _) (wpAny_pure ?_)
  refine wpAny_bind (collect_set (A := A.in1) hh ⟨o, ho, hex.1, hd⟩ R.fits (by unfold scanBound; omega) R.tab.ris R.led fun s1 vs k1 hz g1 o1 pm => ?_)
  have hes : es.toList.map (·.2) = L.map fun q => Value.ref q.1 := by
    rw [R.rows]
    unfold rowsOf
    rw [List.map_map]
    rfl
  rw [hes] at pm
  obtain ⟨L1, p1, rfl⟩ := lift_perm pm.symm L rfl
  have l1 : L1.length ≤ 300 := by rw [p1.length_eq]; exact few
  refine wpAny_bind (wpAny_newList ?_ (by rw [List.length_map, sizeLine_eq]; omega))
  generalize hvs : (L1.map fun p => Value.ref p.1) = vs
  have hoL : (s1.heap.push (seqObj "list" vs.toArray 0)).get? s1.heap.objs.size = some (seqObj "list" vs.toArray 0) := Heap.get?_push_size _ rfl
  obtain ⟨e1, e2⟩ := each_refs (a := s1.heap.objs.size) (P := P) (w := w) (h := s1.heap.push (seqObj "list" vs.toArray 0)) (L := L1) fun p hp => isT_keep (R.tup p (p1.mem_iff.mp hp)) fun b u e => Heap.get?_push_of_some _ (k1 b u e)
  rw [hvs] at e1 e2
  have dep : ∀ b : Addr × List Int, (rowT b).depth ≤ 1 := fun b => by
    show (PyData.tuple (b.2.map PyData.int)).depth ≤ 1
    unfold PyData.depth
    rw [W.depth_ints]
    exact Nat.le_refl _
  refine wpAny_bind (wpAny_holding (W.list_sort_data (s := { s1 with heap := s1.heap.push (seqObj "list" vs.toArray 0) }) (enc := rowT) hoL e1 e2 (fun d hd d' hd' => ?_) (.inl fun d hd => ?_) (by rw [sizeLine_eq]; omega) (fun b _ => by have := dep b; show A.units + 1 + 1 + _ < _; omega) fun out hlen hout => ?_))
  · obtain ⟨p, _, rfl⟩ := List.mem_map.mp hd
    obtain ⟨q, _, rfl⟩ := List.mem_map.mp hd'
    exact W.alike_ints p.2 q.2
  · obtain ⟨p, hp, rfl⟩ := List.mem_map.mp hd
    match h : p.2, hne p (p1.mem_iff.mp hp) with
    | x :: r, _ => exact ⟨.int x, r.map .int, by show PyData.tuple (p.2.map .int) = _; rw [h]; rfl⟩
  rw [le_rows] at hout
  have eo := refs_of_each hout
  obtain ⟨c, hc⟩ := sortedHeap_at (vs := vs) (out := out.toArray) hoL
  have pw := List.pairwise_mergeSort (le := fun p q : Addr × List Int => decide (p.2 ≤ q.2)) (fun p q r h1 h2 => by
    rw [decide_eq_true_eq] at *
    exact List.le_trans h1 h2) (fun p q => by
    rw [Bool.or_eq_true, decide_eq_true_eq, decide_eq_true_eq]
    exact List.le_total p.2 q.2) L1
  refine wpAny_pure ⟨_, rfl, hQ _ s1.heap.objs.size out.toArray c _ (fun b u e => ?_) g1 o1 hz hc eo ((List.mergeSort_perm _ _).trans p1) (pw.imp fun h => lex_iff.mpr (by rwa [decide_eq_true_eq] at h))⟩
  have q := k1 b u e
  have hlt := Heap.lt_size q
  show (sortedHeap (s1.heap.push (seqObj "list" vs.toArray 0)) s1.heap.objs.size vs out.toArray).get? b = some u
  rw [sortedHeap_old (Nat.ne_of_lt hlt) (by rw [size_push']; exact Nat.lt_succ_of_lt hlt)]
  exact Heap.get?_push_of_some _ q
end
/-- the set at a, without the tuples themselves -/
def Set0 (P : Program) (w : World) (h : Heap) (a : Addr) (L : List (Addr × List Int)) : Prop := ∃ (es : Array (Int × Value)) (ep : Nat) (t : SetTable), (∃ o, h.get? a = some o ∧ o.ExactSet ∧ o.data = .set es ep t) ∧
  es.toList = rowsOf P w L ∧ Tb t (hsOf P w L) ∧ (L.map (·.2)).Nodup ∧ t.plain = true ∧ (w.params.followText "set-order" = true ∨ t.led = true) ∧ L.length * 5 < t.mask * 3 ∧ L.length ≤ 300
def SetO (P : Program) (w : World) (a : Addr) (L : List (Addr × List Int)) : HO := .ext fun h => Set0 P w h a L
theorem SetB.s0 {P : Program} {w : World} {h : Heap} {a : Addr} {L : List (Addr × List Int)} {es : Array (Int × Value)} {ep : Nat} {t : SetTable} (R : SetB P w h a L es ep t) : Set0 P w h a L :=
  ⟨es, ep, t, R.ob, R.rows, R.tab, R.nd, R.plain, R.led, R.room, R.few⟩
theorem Set0.full {P : Program} {w : World} {h : Heap} {a : Addr} {L : List (Addr × List Int)} (R : Set0 P w h a L) (ht : ∀ p ∈ L, IsT P w h p.2 p.1) : ∃ es ep t, SetB P w h a L es ep t :=
  let ⟨es, ep, t, h1, h2, h3, h4, h5, h6, h7, h8⟩ := R
  ⟨es, ep, t, h1, h2, h3, h4, ht, h5, h6, h7, h8⟩
theorem setO_new {P : Program} {w : World} {H : Hp} {h : Heap} {a : Addr} {L : List (Addr × List Int)} (R : Set0 P w h a L) : ObjOk P w H h a (SetO P w a L) :=
  have ⟨es, ep, t, ⟨o, ho, r⟩, q⟩ := R
  ⟨R, ⟨o, ho⟩, fun h1 h2 p k =>
    have ⟨es', ep', t', ⟨o', ho', r'⟩, q'⟩ : Set0 P w _ a L := p
    ⟨es', ep', t', ⟨o', k o' ho', r'⟩, q'⟩⟩
section
variable {X : Cx}
def rSetOfB (K : PySem.W.Frag) (P : Program) (w : World) : List V → Hp → VK → Prop := fun xs H Q => ∃ (l : Addr) (ks : List (Addr × List Int)), xs = [V.ref l] ∧ SqL K H l (ks.map fun p => V.ref p.1) ∧ (∀ p ∈ ks, SqT K H p.1 (p.2.map V.int)) ∧ ks.length ≤ 300 ∧
  ∀ a L, H a = none → (∀ p ∈ L, p ∈ ks) → (∀ p ∈ ks, p.2 ∈ L.map (·.2)) → Q (.ref a) (upd H a (SetO P w a L))
theorem cr_setOfB (hc : X.calm = true) (hu : X.A.units + 64 < cLine) : CallR X (.type "set") (rSetOfB X.K X.prog X.w) := by
  intro pins s σ H xs us Q I r h
  obtain ⟨l, ks, rfl, hl, hk, hf, q⟩ := h
  rw [Vals.ref1 r]
  obtain ⟨its, rv, pl, hz⟩ := I.list hl
  refine call_set_B (P := X.prog) (w := X.w) ks (I.ok.hd hc) pl.isList (by simpa using refs_of_vals rv) (fun p hp => I.isT (hk p hp)) hf (by omega) fun h' tk ⟨L, es, ep, t, R, g⟩ k => ?_
  refine ⟨.ref s.heap.objs.size, upd H s.heap.objs.size (SetO X.prog X.w s.heap.objs.size L), I.laid (t' := tk) k (Nat.le_refl _) (setO_new R.s0), rfl, q _ L (I.hok.fresh (Nat.le_refl _)) (fun p hp => List.mem_of_mem_take (g.sub p hp)) fun p hp => g.all p (by rw [List.take_length]; exact hp)⟩
def rSortedB (K : PySem.W.Frag) (P : Program) (w : World) : List V → Hp → VK → Prop := fun vs H Q => ∃ (a : Addr) (L : List (Addr × List Int)), vs = [V.ref a] ∧ H a = some (SetO P w a L) ∧ (∀ p ∈ L, SqT K H p.1 (p.2.map V.int)) ∧ (∀ p ∈ L, p.2 ≠ []) ∧
  ∀ (L' : List (Addr × List Int)) (p : Addr), L'.Perm L → (L'.map (·.2)).Nodup → L'.length ≤ 300 → L'.Pairwise (fun q r => Dv.lexLe q.2 r.2 = true) → H p = none → Q (.ref p) (upd H p (.lst (L'.map fun q => V.ref q.1)))
theorem cr_sortedB (hc : X.calm = true) (hu : X.A.units + 64 < cLine) : CallR X (.builtin "sorted") (rSortedB X.K X.prog X.w) := by
  intro pins s σ H vs us Q I r h
  obtain ⟨a, L, rfl, ha, hk, hne, q⟩ := h
  have R0 : Set0 X.prog X.w s.heap a L := (I.hok a _ ha).1
  obtain ⟨es, ep, t, R⟩ := R0.full fun p hp => I.isT (hk p hp)
  rw [Vals.ref1 r]
  refine sorted_B R (I.ok.hd hc) hu hne fun s' p out c L' k g o hp hg hout pm pw => ?_
  have few : L'.length ≤ 300 := by rw [pm.length_eq]; exact R.few
  have hn : H p = none := I.hok.fresh hp
  have J : Inv X pins σ (upd H p (.lst (L'.map fun q => V.ref q.1))) { s with heap := s'.heap, gens := s'.gens, drawn := s'.drawn, toks := s'.toks } :=
    I.call (ch := []) (Un.laid k hp hn) (I.hok.laid k hp ⟨by rw [List.length_map, sizeLine_eq]; omega, out.toList, c, by rw [hout]; exact vals_of_refs L', hg⟩) (by rw [g]; exact I.bare) (fun _ z => nomatch z)
  have e : s' = { s with heap := s'.heap, gens := s'.gens, drawn := s'.drawn, toks := s'.toks } := by
    cases s'
    cases s
    cases o
    rfl
  rw [e]
  exact ⟨.ref p, _, J, rfl, q L' p pm ((pm.map (·.2)).nodup_iff.mpr R.nd) few pw hn⟩
end
end Sb
namespace Dv
open PySem PySem.Spec PyProof.Rows L2
def okRowsB (rs : List (List Int)) : Bool := decide (rs.length ≤ 300) && rs.all fun r => !r.isEmpty
def sortSetB : PyData → Option (List PyData)
  | .list ds => (rowsD ds).bind fun rs => if okRowsB rs = true then some ((ssT rs).map fun r => PyData.tuple (r.map PyData.int)) else none
  | _ => none
def eSortSetB (f : En → Option PyData) : En → Option (List PyData) := fun ρ => (f ρ).bind sortSetB
theorem eSortSetB_ap {f : En → Option PyData} {ρ : En} : eSortSetB f ρ = (f ρ).bind sortSetB := rfl
section
variable {X : Cx} {e : Expr} {f : En → Option PyData} {pos p : Pos}
theorem dl_sortSetB {p2 q2 : Pos} (hc : X.calm = true) (hg : Gl X "sorted") (hm : X.mg "sorted" = none) (hg2 : Gl X "set") (hm2 : X.mg "set" = none) (hu : X.A.units + 64 < cLine) (he : DE X e f)
    (n1 : starEach (.Call (.Name "set" p2) [e] [] q2 :: []) X.env = (false, eval (.Call (.Name "set" p2) [e] [] q2) X.env) :: starEach [] X.env := by rfl) (n2 : starEach (e :: []) X.env = (false, eval e X.env) :: starEach [] X.env := by rfl) :
    DL X (.Call (.Name "sorted" p) [.Call (.Name "set" p2) [e] [] q2] [] pos) (eSortSetB f) := by
  obtain ⟨t, pt, q⟩ := he
  refine ⟨_, pe_callB (Sb.cr_sortedB hc hu) hg hm (by decide +kernel) (pa_cons (pe_callTy (Sb.cr_setOfB hc hu) hg2 hm2 PyProof.Rows.boot_set (pa_cons pt pa_nil n2) (he := n2) (hpl := by rfl)) pa_nil n1) (he := n1) (hpl := by rfl), fun σ H1 H ρ cs Q s h k => ?_⟩
  obtain ⟨d1, h1, h⟩ := bind_some h
  cases d1 <;> try (cases h)
  rename_i ds
  obtain ⟨rs, h2, h⟩ := bind_some h
  obtain ⟨ok, rfl⟩ := of_if h
  unfold okRowsB at ok
  rw [Bool.and_eq_true, decide_eq_true_eq, List.all_eq_true] at ok
  obtain ⟨o1, o2⟩ := ok
  refine q σ H1 H ρ _ _ s h1 fun v H1' H' x dv => ?_
  cases dv with
  | lst hs hl dl =>
    obtain ⟨ks, rfl, e2, e3⟩ := rowsD_den h2 dl
    subst e2
    rw [List.length_map] at o1
    refine ⟨_, ks, rfl, x.sub.seq hs, fun p hp => sqT_mono x.sub (e3 p hp).2, o1, fun A L nA sub all => ?_⟩
    have x2 : Ext H1' H' H1' (upd H' A (Sb.SetO X.prog X.w A L)) := .newMut x.sub nA
    refine ⟨A, L, rfl, upd_same, fun p hp => sqT_mono x2.sub (e3 p (sub p hp)).2, fun p hp z => ?_, fun L' B pm nd few pw nB => ?_⟩
    · have := o2 p.2 (List.mem_map_of_mem (sub p hp))
      rw [z] at this
      cases this
    · have x3 : Ext H1' (upd H' A (Sb.SetO X.prog X.w A L)) H1' (upd (upd H' A (Sb.SetO X.prog X.w A L)) B (.lst (L'.map fun q => V.ref q.1))) := .newMut x2.sub nB
      have hsub : ∀ p ∈ L', p ∈ ks := fun p hp => sub p (pm.mem_iff.mp hp)
      have er : L'.map (·.2) = ssT (ks.map (·.2)) := by
        refine ssT_eq nd (fun r => ?_) (List.pairwise_map.mpr pw)
        rw [List.mem_map, List.mem_map]
        constructor
        · rintro ⟨p, hp, rfl⟩
          exact ⟨p, hsub p hp, rfl⟩
        · rintro ⟨p, hp, rfl⟩
          obtain ⟨p', hp', e⟩ := List.mem_map.mp (all p hp)
          exact ⟨p', pm.mem_iff.mpr hp', e⟩
      rw [← er] at k
      refine k B _ H1' _ ((x.trans x2).trans x3) ((Ext.same s.sub (x.trans x2)).free nB) upd_same (x2.sub.free nB) ?_ (den_rows fun p hp => (e3 p (hsub p hp)).1)
      rw [List.length_map, List.length_map, sizeLine_eq]; omega
end
end Dv

namespace Lw
open PySem PySem.Spec PyProof.Rows L2 Dv
def b_swapped : En → Option Out :=
  (sSeq (sAsgL 3 (eNL listD (eCons (eVar 0) eNil)))
  (sSeq (sAsg (eN minD2 (eCons (e2 idxD (eVar 0) (eVar 1)) (eCons (e2 idxD (eVar 0) (eVar 2)) eNil))) (gSubM 3 (eVar 1)))
  (sSeq (sAsg (eN maxD2 (eCons (e2 idxD (eVar 0) (eVar 1)) (eCons (e2 idxD (eVar 0) (eVar 2)) eNil))) (gSubM 3 (eVar 2)))
  (sRet (eTupM 3)))))
def g_swapped : List PyData → Option PyData := fnD 3 1 b_swapped
def b_run : En → Option Out :=
  (sSeq (sFor (iSq (eVar 0)) (gT 2 (gConsD (gN 2) (gConsD (gN 3) gNilD))) (sAsg (eN g_swapped (eCons (eVar 1) (eCons (eVar 2) (eCons (eVar 3) eNil)))) (gN 1)))
  (sRet (eVar 1)))
def g_run : List PyData → Option PyData := fnD 2 2 b_run
def b_plain_rows : En → Option Out :=
  (sSeq (sAsg (eL (eNL mkL (eCons (eN mkT eNil) eNil))) (gN 1))
  (sSeq (sFor (eNL rg1 (eCons (eVar 0) eNil)) (gN 2) (sAsg (e2 addD (eL (eLc (iSq (eVar 1)) splN [3] [3] tYesD (e2 addD (eVar 3) (eN mkT (eCons (eC (.int 0)) eNil))))) (eL (eLc (iSq (eVar 1)) splN [3] [3] tYesD (e2 addD (eVar 3) (eN mkT (eCons (eC (.int 1)) eNil)))))) (gN 1)))
  (sRet (eVar 1))))
def g_plain_rows : List PyData → Option PyData := fnD 1 3 b_plain_rows
def b_outcomes : En → Option Out :=
  (sRet (eN tupD (eCons (eL (eSortSetB (eL (eLc (iSq (eN g_plain_rows (eCons (eVar 1) eNil))) splN [2] [2] tYesD (eN g_run (eCons (eVar 0) (eCons (eVar 2) eNil))))))) eNil)))
def g_outcomes : List PyData → Option PyData := fnD 2 1 b_outcomes
def b_sure : En → Option Out :=
  (sSeq (sAsg (eN g_outcomes (eCons (eVar 0) (eCons (eVar 1) eNil))) (gN 2))
  (sSeq (sAsgL 3 (eNL mkL eNil))
  (sSeq (sFor (eNL rg1 (eCons (eVar 1) eNil)) (gN 4) (sFor (eNL rg1 (eCons (eVar 1) eNil)) (gN 5) (sIf (tAndD (tB (e2 neD (eVar 4) (eVar 5))) (tB (eN allD (eCons (eL (eLc (iSq (eVar 2)) splN [6] [6] tYesD (e2 leD (e2 idxD (eVar 6) (eVar 4)) (e2 idxD (eVar 6) (eVar 5))))) eNil)))) (sApp 3 (eN mkT (eCons (eVar 4) (eCons (eVar 5) eNil)))) sNil)))
  (sRet (eTupM 3)))))
def g_sure : List PyData → Option PyData := fnD 2 5 b_sure
def b_law_cell_at : En → Option Out :=
  (sSeq (sIf (tB (e2 ltD (eVar 1) (eN lenD (eCons (eVar 0) eNil)))) (sRet (e2 idxD (eVar 0) (eVar 1))) sNil)
  (sRet (eC (.int 0))))
def g_law_cell_at : List PyData → Option PyData := fnD 2 0 b_law_cell_at
def b_law_mixed : En → Option Out :=
  (sSeq (sAsg (e2 modD (e2 mulD2 (e2 addD (e2 addD (eN g_law_cell_at (eCons (eVar 0) (eCons (eVar 1) eNil))) (e2 mulD2 (eC (.int 7919)) (eVar 1))) (eC (.int 1))) (eC (.int 48271))) (eC (.int 2147483647))) (gN 2))
  (sRet (e2 modD (e2 addD (e2 addD (e2 mulD2 (eVar 2) (eVar 2)) (e2 mulD2 (eC (.int 7)) (eVar 2))) (eVar 1)) (eC (.int 2147483629)))))
def g_law_mixed : List PyData → Option PyData := fnD 2 1 b_law_mixed
def b_law_drawn : En → Option Out :=
  (sSeq (sAsg (e2 modD (e2 mulD2 (e2 addD (e2 addD (eVar 0) (e2 mulD2 (eC (.int 104729)) (eVar 1))) (eC (.int 17))) (eC (.int 69621))) (eC (.int 2147483647))) (gN 2))
  (sRet (e2 modD (e2 addD (e2 addD (e2 mulD2 (eVar 2) (eVar 2)) (e2 mulD2 (eC (.int 3)) (eVar 2))) (eVar 1)) (eC (.int 2147483629)))))
def g_law_drawn : List PyData → Option PyData := fnD 2 1 b_law_drawn
def b_law_swap : En → Option Out :=
  (sSeq (sAsg (e2 modD (eVar 0) (eVar 1)) (gN 2))
  (sRet (eN mkT (eCons (eVar 2) (eCons (e2 modD (e2 addD (e2 addD (eVar 2) (eC (.int 1))) (e2 modD (e2 fdivD (eVar 0) (eC (.int 8))) (e2 subD (eVar 1) (eC (.int 1))))) (eVar 1)) eNil)))))
def g_law_swap : List PyData → Option PyData := fnD 2 1 b_law_swap
def b_law_bubble : En → Option Out :=
  (sSeq (sAsg (eL (eNL mkL eNil)) (gN 1))
  (sSeq (sFor (eNL rg1 (eCons (eVar 0) eNil)) (gN 2) (sAsg (e2 addD (eVar 1) (eL (eLc (eNL rg1 (eCons (e2 subD (e2 subD (eVar 0) (eC (.int 1))) (eVar 2)) eNil)) splN [3] [3] tYesD (eN mkT (eCons (eVar 3) (eCons (e2 addD (eVar 3) (eC (.int 1))) eNil)))))) (gN 1)))
  (sRet (eVar 1))))
def g_law_bubble : List PyData → Option PyData := fnD 1 3 b_law_bubble
def b_law_net : En → Option Out :=
  (sSeq (sIf (tB (e2 eqD (eVar 1) (eC (.int 1)))) (sRet (eN mkT eNil)) sNil)
  (sSeq (sAsg (e2 modD (e2 fdivD (eVar 0) (eC (.int 64))) (eC (.int 4))) (gN 3))
  (sSeq (sAsg (eL (eLc (eNL rg1 (eCons (e2 modD (eVar 0) (e2 addD (eVar 2) (eC (.int 1)))) eNil)) splN [6] [6] tYesD (eN g_law_swap (eCons (eN g_law_drawn (eCons (eVar 0) (eCons (eVar 6) eNil))) (eCons (eVar 1) eNil))))) (gN 4))
  (sSeq (sIf (tB (e2 eqD (eVar 3) (eC (.int 1)))) (sAsg (eL (eLc (iSq (eVar 4)) (splT 2) [7, 8] [7, 8] tYesD (eN mkT (eCons (eN minD2 (eCons (eVar 7) (eCons (eVar 8) eNil))) (eCons (eN maxD2 (eCons (eVar 7) (eCons (eVar 8) eNil))) eNil))))) (gN 4)) sNil)
  (sSeq (sIf (tB (e2 eqD (eVar 3) (eC (.int 2)))) (sAsg (eL (eLc (iSq (eVar 4)) (splT 2) [7, 8] [7, 8] tYesD (eN mkT (eCons (e2 modD (eVar 7) (e2 subD (eVar 1) (eC (.int 1)))) (eCons (e2 addD (e2 modD (eVar 7) (e2 subD (eVar 1) (eC (.int 1)))) (eC (.int 1))) eNil))))) (gN 4)) sNil)
  (sSeq (sIf (tB (e2 eqD (eVar 3) (eC (.int 3)))) (sSeq (sAsg (e2 addD (eSl (eVar 4) oNo (oSo (e2 mulD2 (eC (.int 5)) (e2 modD (e2 fdivD (eVar 0) (eC (.int 256))) (eC (.int 2)))))) (eN g_law_bubble (eCons (eVar 1) eNil))) (gN 4))
  (sIf (tB (e2 eqD (e2 modD (e2 fdivD (eVar 0) (eC (.int 512))) (eC (.int 2))) (eC (.int 1)))) (sSeq (sAsg (e2 modD (e2 fdivD (eVar 0) (eC (.int 1024))) (eN lenD (eCons (eVar 4) eNil))) (gN 5))
  (sAsg (e2 addD (eSl (eVar 4) oNo (oSo (eVar 5))) (eSl (eVar 4) (oSo (e2 addD (eVar 5) (eC (.int 1)))) oNo)) (gN 4))) sNil)) sNil)
  (sRet (eN tupD (eCons (eVar 4) eNil)))))))))
def g_law_net : List PyData → Option PyData := fnD 3 6 b_law_net
def b_law_run : En → Option Out :=
  (sSeq (sAsgL 2 (eNL listD (eCons (eVar 1) eNil)))
  (sSeq (sFor (iSq (eVar 0)) (gT 2 (gConsD (gN 3) (gConsD (gN 4) gNilD))) (sSeq (sAsg (eN minD2 (eCons (eIdxM 2 (eVar 3)) (eCons (eIdxM 2 (eVar 4)) eNil))) (gN 5))
  (sSeq (sAsg (eN maxD2 (eCons (eIdxM 2 (eVar 3)) (eCons (eIdxM 2 (eVar 4)) eNil))) (gSubM 2 (eVar 4)))
  (sAsg (eVar 5) (gSubM 2 (eVar 3))))))
  (sRet (eTupM 2))))
def g_law_run : List PyData → Option PyData := fnD 2 4 b_law_run
def b_law_in_order : En → Option Out :=
  (sRet (e2 eqD (eL (eLc (eNL rg2 (eCons (eC (.int 1)) (eCons (eN lenD (eCons (eVar 0) eNil)) eNil))) splN [1] [1] (tB (e2 gtD (e2 idxD (eVar 0) (e2 subD (eVar 1) (eC (.int 1)))) (e2 idxD (eVar 0) (eVar 1)))) (eVar 1))) (eL (eNL mkL eNil))))
def g_law_in_order : List PyData → Option PyData := fnD 1 1 b_law_in_order
def b_law_row : En → Option Out :=
  (sSeq (sAsg (eL (eLc (eNL rg1 (eCons (eVar 2) eNil)) splN [5] [5] tYesD (eN g_law_cell_at (eCons (eVar 0) (eCons (e2 addD (eVar 1) (eVar 5)) eNil))))) (gN 4))
  (sSeq (sIf (tB (e2 eqD (e2 modD (eVar 3) (eC (.int 3))) (eC (.int 1)))) (sAsg (eL (eLc (iSq (eVar 4)) splN [6] [6] tYesD (e2 modD (eVar 6) (eC (.int 2))))) (gN 4)) sNil)
  (sSeq (sIf (tB (e2 eqD (e2 modD (eVar 3) (eC (.int 3))) (eC (.int 2)))) (sAsg (eL (eLc (eNL rg1 (eCons (eVar 2) eNil)) splN [5] [5] tYesD (e2 modD (eN g_law_drawn (eCons (eVar 3) (eCons (eVar 5) eNil))) (e2 idxD (eN mkT (eCons (eC (.int 2)) (eCons (eC (.int 3)) (eCons (eC (.int 9)) (eCons (eC (.int 1000)) eNil))))) (e2 modD (e2 fdivD (eVar 3) (eC (.int 3))) (eC (.int 4))))))) (gN 4)) sNil)
  (sRet (eN tupD (eCons (eVar 4) eNil))))))
def g_law_row : List PyData → Option PyData := fnD 4 3 b_law_row
def b_law_plain_rows : En → Option Out :=
  (sSeq (sAsg (eL (eNL mkL (eCons (eN mkT eNil) eNil))) (gN 1))
  (sSeq (sFor (eNL rg1 (eCons (eVar 0) eNil)) (gN 2) (sAsg (e2 addD (eL (eLc (iSq (eVar 1)) splN [3] [3] tYesD (e2 addD (eVar 3) (eN mkT (eCons (eC (.int 0)) eNil))))) (eL (eLc (iSq (eVar 1)) splN [3] [3] tYesD (e2 addD (eVar 3) (eN mkT (eCons (eC (.int 1)) eNil)))))) (gN 1)))
  (sRet (eVar 1))))
def g_law_plain_rows : List PyData → Option PyData := fnD 1 3 b_law_plain_rows
def b_law_whole : En → Option Out :=
  (sRet (eAnd (e1 (isiD "int") (eVar 0)) (eNot (e1 (isiD "bool") (eVar 0)))))
def g_law_whole : List PyData → Option PyData := fnD 1 0 b_law_whole
def b_law_is_swap : En → Option Out :=
  (sSeq (sIf (tOrD (tNotD (tB (e1 (isiD "tuple") (eVar 0)))) (tOrD (tB (e2 neD (eN lenD (eCons (eVar 0) eNil)) (eC (.int 2)))) (tOrD (tNotD (tB (eN g_law_whole (eCons (e2 idxD (eVar 0) (eC (.int 0))) eNil)))) (tNotD (tB (eN g_law_whole (eCons (e2 idxD (eVar 0) (eC (.int 1))) eNil))))))) (sRet (eC (.bool false))) sNil)
  (sRet (eAnd (eChain leD ltD (eC (.int 0)) (e2 idxD (eVar 0) (eC (.int 0))) (eVar 1)) (eAnd (eChain leD ltD (eC (.int 0)) (e2 idxD (eVar 0) (eC (.int 1))) (eVar 1)) (e2 neD (e2 idxD (eVar 0) (eC (.int 0))) (e2 idxD (eVar 0) (eC (.int 1))))))))
def g_law_is_swap : List PyData → Option PyData := fnD 2 0 b_law_is_swap
def b_law_is_net : En → Option Out :=
  (sSeq (sIf (tOrD (tNotD (tB (e1 (isiD "tuple") (eVar 0)))) (tB (e2 gtD (eN lenD (eCons (eVar 0) eNil)) (eC (.int 40))))) (sRet (eC (.bool false))) sNil)
  (sRet (e2 eqD (eL (eLc (iSq (eVar 0)) splN [2] [2] (tNotD (tB (eN g_law_is_swap (eCons (eVar 2) (eCons (eVar 1) eNil))))) (eVar 2))) (eL (eNL mkL eNil)))))
def g_law_is_net : List PyData → Option PyData := fnD 2 1 b_law_is_net
def b_law_is_row : En → Option Out :=
  (sRet (eAnd (e1 (isiD "tuple") (eVar 0)) (eAnd (e2 eqD (eN lenD (eCons (eVar 0) eNil)) (eVar 1)) (e2 eqD (eL (eLc (iSq (eVar 0)) splN [2] [2] (tNotD (tB (eN g_law_whole (eCons (eVar 2) eNil)))) (eVar 2))) (eL (eNL mkL eNil))))))
def g_law_is_row : List PyData → Option PyData := fnD 2 1 b_law_is_row
def b_law : En → Option Out :=
  (sSeq (sAsg (e2 addD (eC (.int 1)) (e2 modD (eN g_law_mixed (eCons (eVar 0) (eCons (eC (.int 0)) eNil))) (eC (.int 8)))) (gN 1))
  (sSeq (sAsg (eN g_law_net (eCons (eN g_law_mixed (eCons (eVar 0) (eCons (eC (.int 1)) eNil))) (eCons (eVar 1) (eCons (eC (.int 14)) eNil)))) (gN 2))
  (sSeq (sAsg (eN g_law_row (eCons (eVar 0) (eCons (eC (.int 10)) (eCons (eVar 1) (eCons (eN g_law_mixed (eCons (eVar 0) (eCons (eC (.int 2)) eNil))) eNil))))) (gN 3))
  (sSeq (sAsg (eN g_law_run (eCons (eVar 2) (eCons (eVar 3) eNil))) (gN 4))
  (sSeq (sAsg (eL (eLc (iSq (eN g_law_plain_rows (eCons (eVar 1) eNil))) splN [10] [10] tYesD (eN g_law_run (eCons (eVar 2) (eCons (eVar 10) eNil))))) (gN 5))
  (sSeq (sAsgL 6 (eNL mkL eNil))
  (sSeq (sFor (eNL rg1 (eCons (eVar 1) eNil)) (gN 7) (sFor (eNL rg1 (eCons (eVar 1) eNil)) (gN 8) (sIf (tAndD (tB (e2 neD (eVar 7) (eVar 8))) (tB (e2 eqD (eL (eLc (iSq (eVar 5)) splN [10] [10] (tB (e2 gtD (e2 idxD (eVar 10) (eVar 7)) (e2 idxD (eVar 10) (eVar 8)))) (eVar 10))) (eL (eNL mkL eNil))))) (sApp 6 (eN mkT (eCons (eVar 7) (eCons (eVar 8) eNil)))) sNil)))
  (sSeq (sAsg (eN g_sure (eCons (eVar 2) (eCons (eVar 1) eNil))) (gN 9))
  (sSeq (sIf (tOrD (tB (e2 neD (eVar 9) (eTupM 6))) (tB (e2 neD (eL (eLc (iSq (eVar 9)) splN [11] [11] (tNotD (tB (eN g_law_is_swap (eCons (eVar 11) (eCons (eVar 1) eNil))))) (eVar 11))) (eL (eNL mkL eNil))))) (sRet (eC (.bool false))) sNil)
  (sRet (e2 eqD (eL (eLc (iSq (eVar 9)) splN [11] [11] (tB (e2 gtD (e2 idxD (eVar 4) (e2 idxD (eVar 11) (eC (.int 0)))) (e2 idxD (eVar 4) (e2 idxD (eVar 11) (eC (.int 1)))))) (eVar 11))) (eL (eNL mkL eNil)))))))))))))
def g_law : List PyData → Option PyData := fnD 1 11 b_law
theorem sp_swapped {r : Nt.Row} {a b : Nat} (h : Nt.SwOk r.length (a, b)) : g_swapped [rowD r, .int (a : Int), .int (b : Int)] = some (rowD (Nt.sw (a, b) r)) := by
  obtain ⟨h1, h2, h3⟩ := h
  simp only at h1 h2
  have e1 := at_row h1
  have e2 := at_row h2
  unfold g_swapped
  rw [fnD_ap (by rfl)]
  simp [b_swapped, rowD, e1, e2, minD2_i, maxD2_i, gSubM_ap, ixN_nat, h1, h2, Nt.sw, Nt.lo, Nt.hi]

theorem run_loop : ∀ (n : Nt.Net) (r : Nt.Row) (N : PyData) (x y : Option W), Nt.Ok r.length n → ∃ x' y', forD (gT 2 (gConsD (gN 2) (gConsD (gN 3) gNilD))) (sAsg (eN g_swapped (eCons (eVar 1) (eCons (eVar 2) (eCons (eVar 3) eNil)))) (gN 1)) (n.map swD) [some (.im N), some (.im (rowD r)), x, y] = some (.nx [some (.im N), some (.im (rowD (Nt.run n r))), x', y'])
  | [], r, N, x, y, _ => ⟨x, y, rfl⟩
  | p :: n, r, N, x, y, ok => by
    obtain ⟨a, b⟩ := p
    obtain ⟨x', y', ih⟩ := run_loop n (Nt.sw (a, b) r) N (some (.im (.int a))) (some (.im (.int b))) (by rw [Nt.sw_len]; exact ok.tail)
    refine ⟨x', y', ?_⟩
    rw [Nt.run_cons, ← ih]
    simp [swD, sp_swapped ok.head]
theorem sp_run {n : Nt.Net} {r : Nt.Row} (ok : Nt.Ok r.length n) : g_run [netD n, rowD r] = some (rowD (Nt.run n r)) := by
  obtain ⟨x, y, h⟩ := run_loop n r (netD n) none none ok
  unfold g_run
  rw [fnD_ap (by rfl)]
  simp [b_run, netD] at h ⊢
  simp [h]

theorem plain_loop (N : PyData) : ∀ (k w : Nat) (x : Option W), w + k ≤ 10 → ∃ x', forD (gN 2) (sAsg (e2 addD (eL (eLc (iSq (eVar 1)) splN [3] [3] tYesD (e2 addD (eVar 3) (eN mkT (eCons (eC (.int 0)) eNil))))) (eL (eLc (iSq (eVar 1)) splN [3] [3] tYesD (e2 addD (eVar 3) (eN mkT (eCons (eC (.int 1)) eNil)))))) (gN 1)) ((List.range' w k).map fun i => PyData.int ((i : Nat) : Int)) [some (.im N), some (.im (.list ((Nt.plain w).map rowD))), x, none] = some (.nx [some (.im N), some (.im (.list ((Nt.plain (w + k)).map rowD))), x', none])
  | 0, w, x, _ => ⟨x, rfl⟩
  | k + 1, w, x, h => by
    obtain ⟨x', ih⟩ := plain_loop N k (w + 1) (some (.im (.int (w : Int)))) (by omega)
    refine ⟨x', ?_⟩
    have hl : (Nt.plain w).length ≤ 1024 := by
      rw [Nt.plain_len]
      exact Nat.le_trans (Nat.pow_le_pow_right (n := 2) (by decide) (show w ≤ 10 by omega)) (by decide)
    have one : ∀ c : Int, lcD splN [3] tYesD (e2 addD (eVar 3) (eN mkT (eCons (eC (.int c)) eNil))) [some (.im N), some (.im (.list ((Nt.plain w).map rowD))), some (.im (.int (w : Int))), none] ((Nt.plain w).map rowD) = some (((Nt.plain w).map fun r => r ++ [c]).map rowD) := fun c => by
      rw [lcD_mapN rowD (fun r => rowD (r ++ [c]))]
      · rw [List.map_map]; rfl
      · intro r hr
        have hlr := (Nt.plain_mem.mp hr).1
        simp [rowD]
        rw [addD_t (by rw [List.length_map]; simp; omega)]
    rw [show w + (k + 1) = (w + 1) + k by omega, ← ih, List.range'_succ]
    simp [one]
    rw [addD_l (by simp only [List.length_map]; omega)]
    simp [Nt.plain]
theorem sp_plain_rows {w : Nat} (h : w ≤ 10) : g_plain_rows [.int (w : Int)] = some (.list ((Nt.plain w).map rowD)) := by
  obtain ⟨x, hl⟩ := plain_loop (.int w) w 0 none (by omega)
  unfold g_plain_rows
  rw [fnD_ap (by rfl)]
  rw [← List.range_eq_range'] at hl
  simp [b_plain_rows, rg1_i (k := (w : Int)) ⟨by omega, by omega⟩, rng0]
  simp [Nt.plain, rowD] at hl
  simp [hl, rowD]

def rowT (r : List Int) : PyData := .tuple (r.map PyData.int)
def outT (n : Nt.Net) (w : Nat) : List Nt.Row := ssT ((Nt.plain w).map (Nt.run n))
theorem sortSet_rows {rs : List Nt.Row} (h1 : rs.length ≤ 300) (h : ∀ r ∈ rs, 1 ≤ r.length) : sortSetB (.list (rs.map rowD)) = some ((ssT rs).map rowD) := by
  show (rowsD (rs.map rowD)).bind _ = _
  have e : rowsD (rs.map rowD) = some rs := rowsD_map rs
  rw [e, Option.bind_some, if_pos]
  · rfl
  · unfold okRowsB
    rw [Bool.and_eq_true, decide_eq_true_eq, List.all_eq_true]
    refine ⟨h1, fun r hr => ?_⟩
    match r, h r hr with
    | _ :: _, _ => rfl
theorem plain_few {w : Nat} (h : w ≤ 8) : (Nt.plain w).length ≤ 300 := by
  rw [Nt.plain_len]
  exact Nat.le_trans (Nat.pow_le_pow_right (n := 2) (by decide) h) (by decide)
theorem sp_outcomes {n : Nt.Net} {w : Nat} (h1 : 1 ≤ w) (hw : w ≤ 8) (ok : Nt.Ok w n) : g_outcomes [netD n, .int (w : Int)] = some (.tuple ((outT n w).map rowD)) := by
  have hp := sp_plain_rows (w := w) (by omega)
  unfold g_outcomes
  rw [fnD_ap (by rfl)]
  have e : lcD splN [2] tYesD (eN g_run (eCons (eVar 0) (eCons (eVar 2) eNil))) [some (.im (netD n)), some (.im (.int (w : Int))), none] ((Nt.plain w).map rowD) = some (((Nt.plain w).map (Nt.run n)).map rowD) := by
    rw [lcD_mapN rowD (fun q => rowD (Nt.run n q))]
    · rw [List.map_map]; rfl
    · intro q hq
      have := sp_run (n := n) (r := q) (by rw [(Nt.plain_mem.mp hq).1]; exact ok)
      simp [this]
  have es := sortSet_rows (rs := (Nt.plain w).map (Nt.run n)) (by rw [List.length_map]; exact plain_few hw) fun r hr => by
    obtain ⟨q, hq, rfl⟩ := List.mem_map.mp hr
    rw [Nt.run_len, (Nt.plain_mem.mp hq).1]
    exact h1
  simp only [b_outcomes, List.map_cons, List.map_nil, List.replicate, List.cons_append, List.nil_append, sRet_ap, eN_ap, eCons_ap, eNil_ap, eL_ap, eSortSetB_ap, eLc_ap, iSq_ap, eVar_0, eVar_s, Option.bind_some, Option.map_some, hp, asSeq_l, wipeE_c, wipeE_0, List.set_cons_succ, List.set_cons_zero, e, es, tupD_l, outD_rt, outT]

def sureB (n : Nt.Net) (w a b : Nat) : Bool := decide (a ≠ b) && (outT n w).all fun q => decide (q.getD a 0 ≤ q.getD b 0)
def sureT (n : Nt.Net) (w : Nat) : Nt.Net := (List.range' 0 w).flatMap fun a => ((List.range' 0 w).filter (sureB n w a)).map fun b => (a, b)
theorem out_mem {n : Nt.Net} {w : Nat} {q : Nt.Row} (h : q ∈ outT n w) : q.length = w := by
  obtain ⟨p, hp, rfl⟩ := List.mem_map.mp (ssT_mem.mp h)
  rw [Nt.run_len]
  exact (Nt.plain_mem.mp hp).1
theorem sure_in {n : Nt.Net} {w a : Nat} (N : PyData) (ha : a < w) : ∀ (m j : Nat) (F : Nt.Net) (x y : Option W), j + m = w → F.length + m ≤ 1000 → ∃ x' y', forD (gN 5) (sIf (tAndD (tB (Dv.e2 neD (eVar 4) (eVar 5))) (tB (eN allD (eCons (eL (eLc (iSq (eVar 2)) splN [6] [6] tYesD (Dv.e2 leD (Dv.e2 idxD (eVar 6) (eVar 4)) (Dv.e2 idxD (eVar 6) (eVar 5))))) eNil)))) (sApp 3 (eN mkT (eCons (eVar 4) (eCons (eVar 5) eNil)))) sNil)
    ((List.range' j m).map fun i => PyData.int ((i : Nat) : Int)) [some (.im N), some (.im (.int (w : Int))), some (.im (.tuple ((outT n w).map rowD))), some (.ml (F.map swD)), some (.im (.int (a : Int))), x, y] =
    some (.nx [some (.im N), some (.im (.int (w : Int))), some (.im (.tuple ((outT n w).map rowD))), some (.ml ((F ++ ((List.range' j m).filter (sureB n w a)).map fun b => (a, b)).map swD)), some (.im (.int (a : Int))), x', y'])
  | 0, j, F, x, y, h, hF => ⟨x, y, by simp⟩
  | m + 1, j, F, x, y, h, hF => by
    have lc : lcD splN [6] tYesD (e2 leD (e2 idxD (eVar 6) (eVar 4)) (e2 idxD (eVar 6) (eVar 5))) [some (.im N), some (.im (.int (w : Int))), some (.im (.tuple ((outT n w).map rowD))), some (.ml (F.map swD)), some (.im (.int (a : Int))), some (.im (.int (j : Int))), none] ((outT n w).map rowD) = some (((outT n w).map fun q => decide (q.getD a 0 ≤ q.getD j 0)).map PyData.bool) := by
      rw [lcD_mapN rowD (fun q => .bool (decide (q.getD a 0 ≤ q.getD j 0)))]
      · rw [List.map_map]; rfl
      · intro q hq
        have lq := out_mem hq
        have a1 := at_row (r := q) (k := a) (by omega)
        have a2 := at_row (r := q) (k := j) (by omega)
        simp only [rowD]
        simp only [Dv.e2_ap, eVar_s, eVar_0, List.set_cons_succ, List.set_cons_zero, Option.bind_some, idxD_t, a1, a2, leD_i]
    have al : allD [.list (((outT n w).map fun q => decide (q.getD a 0 ≤ q.getD j 0)).map PyData.bool)] = some (.bool ((outT n w).all fun q => decide (q.getD a 0 ≤ q.getD j 0))) := by
      show (bools _).map _ = _
      rw [bools_map, Option.map_some, List.all_map]
      rfl
    have ap : (F.map swD).length < 16777216 := by rw [List.length_map]; omega
    rw [List.range'_succ, List.map_cons, forD_cons, gN_ap, Option.bind_some]
    by_cases c : sureB n w a j = true
    · obtain ⟨x', y', ih⟩ := sure_in N ha m (j + 1) (F ++ [(a, j)]) (some (.im (.int (j : Int)))) y (by omega) (by rw [List.length_append]; simp; omega)
      refine ⟨x', y', ?_⟩
      rw [List.filter_cons_of_pos c, List.map_cons]
      rw [List.append_assoc] at ih
      unfold sureB at c
      rw [Bool.and_eq_true] at c
      have c1 : decide ((a : Int) = (j : Int)) = false := decide_eq_false fun h => of_decide_eq_true c.1 (by omega)
      have z : (sIf (tAndD (tB (Dv.e2 neD (eVar 4) (eVar 5))) (tB (eN allD (eCons (eL (eLc (iSq (eVar 2)) splN [6] [6] tYesD (Dv.e2 leD (Dv.e2 idxD (eVar 6) (eVar 4)) (Dv.e2 idxD (eVar 6) (eVar 5))))) eNil)))) (sApp 3 (eN mkT (eCons (eVar 4) (eCons (eVar 5) eNil)))) sNil) ([some (.im N), some (.im (.int (w : Int))), some (.im (.tuple ((outT n w).map rowD))), some (.ml (F.map swD)), some (.im (.int (a : Int))), x, y].set 5 (some (.im (.int (j : Int))))) = some (.nx [some (.im N), some (.im (.int (w : Int))), some (.im (.tuple ((outT n w).map rowD))), some (.ml ((F ++ [(a, j)]).map swD)), some (.im (.int (a : Int))), some (.im (.int (j : Int))), y]) := by
        simp only [List.set_cons_succ, List.set_cons_zero, sIf_ap, tAndD_ap, tB_ap, Dv.e2_ap, eVar_s, eVar_0, Option.bind_some, neD_i, c1, Bool.not_false, asB_b, if_true, eN_ap, eCons_ap, eNil_ap, eL_ap, eLc_ap, iSq_ap, asSeq_t, wipeE_c, wipeE_0, lc, Option.map_some, al, c.2, sApp_ap, mkT_2, appK_s, appK_0 ap]
        rw [List.map_append]
        rfl
      rw [z, Option.bind_some, loopD_nx]
      exact ih
    · obtain ⟨x', y', ih⟩ := sure_in N ha m (j + 1) F (some (.im (.int (j : Int)))) y (by omega) (by omega)
      refine ⟨x', y', ?_⟩
      rw [List.filter_cons_of_neg c]
      have z : (sIf (tAndD (tB (Dv.e2 neD (eVar 4) (eVar 5))) (tB (eN allD (eCons (eL (eLc (iSq (eVar 2)) splN [6] [6] tYesD (Dv.e2 leD (Dv.e2 idxD (eVar 6) (eVar 4)) (Dv.e2 idxD (eVar 6) (eVar 5))))) eNil)))) (sApp 3 (eN mkT (eCons (eVar 4) (eCons (eVar 5) eNil)))) sNil) ([some (.im N), some (.im (.int (w : Int))), some (.im (.tuple ((outT n w).map rowD))), some (.ml (F.map swD)), some (.im (.int (a : Int))), x, y].set 5 (some (.im (.int (j : Int))))) = some (.nx [some (.im N), some (.im (.int (w : Int))), some (.im (.tuple ((outT n w).map rowD))), some (.ml (F.map swD)), some (.im (.int (a : Int))), some (.im (.int (j : Int))), y]) := by
        unfold sureB at c
        by_cases e : a = j
        · have c1 : decide ((a : Int) = (j : Int)) = true := decide_eq_true (by omega)
          simp only [List.set_cons_succ, List.set_cons_zero, sIf_ap, tAndD_ap, tB_ap, Dv.e2_ap, eVar_s, eVar_0, Option.bind_some, neD_i, c1, Bool.not_true, asB_b, Bool.false_eq_true, if_false, sNil_ap]
        · have c1 : decide ((a : Int) = (j : Int)) = false := decide_eq_false (by omega)
          rw [Bool.and_eq_true] at c
          have c2 : ((outT n w).all fun q => decide (q.getD a 0 ≤ q.getD j 0)) = false := by
            cases hh : ((outT n w).all fun q => decide (q.getD a 0 ≤ q.getD j 0))
            · rfl
            · exact absurd ⟨decide_eq_true e, hh⟩ c
          simp only [List.set_cons_succ, List.set_cons_zero, sIf_ap, tAndD_ap, tB_ap, Dv.e2_ap, eVar_s, eVar_0, Option.bind_some, neD_i, c1, Bool.not_false, asB_b, if_true, eN_ap, eCons_ap, eNil_ap, eL_ap, eLc_ap, iSq_ap, asSeq_t, wipeE_c, wipeE_0, lc, Option.map_some, al, c2, Bool.false_eq_true, if_false, sNil_ap]
      rw [z, Option.bind_some, loopD_nx]
      exact ih
theorem rg_nat {w : Nat} (hw : w ≤ 100) : rg1 [.int (w : Int)] = some ((List.range' 0 w).map fun i => PyData.int ((i : Nat) : Int)) := by
  rw [rg1_i ⟨by omega, by omega⟩, rng0, ← List.range_eq_range']
  rfl
theorem sure_out {n : Nt.Net} {w : Nat} (N : PyData) (hw : w ≤ 10) : ∀ (m a : Nat) (F : Nt.Net) (x y z : Option W), a + m = w → F.length + w * m ≤ 900 → ∃ x' y' z', forD (gN 4) (sFor (eNL rg1 (eCons (eVar 1) eNil)) (gN 5) (sIf (tAndD (tB (Dv.e2 neD (eVar 4) (eVar 5))) (tB (eN allD (eCons (eL (eLc (iSq (eVar 2)) splN [6] [6] tYesD (Dv.e2 leD (Dv.e2 idxD (eVar 6) (eVar 4)) (Dv.e2 idxD (eVar 6) (eVar 5))))) eNil)))) (sApp 3 (eN mkT (eCons (eVar 4) (eCons (eVar 5) eNil)))) sNil))
    ((List.range' a m).map fun i => PyData.int ((i : Nat) : Int)) [some (.im N), some (.im (.int (w : Int))), some (.im (.tuple ((outT n w).map rowD))), some (.ml (F.map swD)), x, y, z] =
    some (.nx [some (.im N), some (.im (.int (w : Int))), some (.im (.tuple ((outT n w).map rowD))), some (.ml ((F ++ (List.range' a m).flatMap fun a => ((List.range' 0 w).filter (sureB n w a)).map fun b => (a, b)).map swD)), x', y', z'])
  | 0, a, F, x, y, z, h, hF => ⟨x, y, z, by simp⟩
  | m + 1, a, F, x, y, z, h, hF => by
    rw [Nat.mul_succ] at hF
    obtain ⟨y1, z1, e1⟩ := sure_in (n := n) (w := w) (a := a) N (by omega) w 0 F y z (by omega) (by omega)
    obtain ⟨x', y', z', ih⟩ := sure_out N hw m (a + 1) (F ++ ((List.range' 0 w).filter (sureB n w a)).map fun b => (a, b)) (some (.im (.int (a : Int)))) y1 z1 (by omega) (by
      rw [List.length_append, List.length_map]
      have := List.length_filter_le (sureB n w a) (List.range' 0 w)
      rw [List.length_range'] at this
      omega)
    refine ⟨x', y', z', ?_⟩
    rw [List.range'_succ, List.map_cons, forD_cons, gN_ap, Option.bind_some, List.flatMap_cons, ← List.append_assoc]
    have e2 : (sFor (eNL rg1 (eCons (eVar 1) eNil)) (gN 5) (sIf (tAndD (tB (Dv.e2 neD (eVar 4) (eVar 5))) (tB (eN allD (eCons (eL (eLc (iSq (eVar 2)) splN [6] [6] tYesD (Dv.e2 leD (Dv.e2 idxD (eVar 6) (eVar 4)) (Dv.e2 idxD (eVar 6) (eVar 5))))) eNil)))) (sApp 3 (eN mkT (eCons (eVar 4) (eCons (eVar 5) eNil)))) sNil)) ([some (.im N), some (.im (.int (w : Int))), some (.im (.tuple ((outT n w).map rowD))), some (.ml (F.map swD)), x, y, z].set 4 (some (.im (.int (a : Int))))) = some (.nx [some (.im N), some (.im (.int (w : Int))), some (.im (.tuple ((outT n w).map rowD))), some (.ml ((F ++ ((List.range' 0 w).filter (sureB n w a)).map fun b => (a, b)).map swD)), some (.im (.int (a : Int))), y1, z1]) := by
      rw [← e1]
      simp only [List.set_cons_succ, List.set_cons_zero, sFor_ap, eNL_ap, eCons_ap, eNil_ap, eVar_s, eVar_0, Option.bind_some, Option.map_some, rg_nat (show w ≤ 100 by omega)]
    rw [e2, Option.bind_some, loopD_nx]
    exact ih
theorem sp_sure {n : Nt.Net} {w : Nat} (h1 : 1 ≤ w) (hw : w ≤ 8) (ok : Nt.Ok w n) : g_sure [netD n, .int (w : Int)] = some (netD (sureT n w)) := by
  obtain ⟨x, y, z, e⟩ := sure_out (n := n) (w := w) (netD n) (by omega) w 0 [] none none none (by omega) (by
    have : w * w ≤ 8 * 8 := Nat.mul_le_mul hw hw
    simp
    omega)
  have ho := sp_outcomes h1 hw ok
  unfold g_sure
  rw [fnD_ap (by rfl)]
  simp only [List.map_nil, List.nil_append] at e
  simp only [b_sure, List.map_cons, List.map_nil, List.replicate, List.cons_append, List.nil_append, sSeq_ap, sAsg_ap, eN_ap, eCons_ap, eNil_ap, eVar_s, eVar_0, Option.bind_some, Option.map_some, ho, gN_ap, List.set_cons_succ, List.set_cons_zero, thenD_nx, sAsgL_ap, eNL_ap, mkL_0, sFor_ap (fi := eNL rg1 _) (h := gN 4), rg_nat (show w ≤ 100 by omega), e, sRet_ap, eTupM_s, eTupM_0, outD_rt]
  rfl

theorem sp_cell_at (ns : List Int) (k : Nat) : g_law_cell_at [.list (ns.map PyData.int), .int (k : Int)] = some (.int (ns.getD k 0)) := by
  unfold g_law_cell_at
  rw [fnD_ap (by rfl)]
  by_cases h : k < ns.length
  · have e := at_row h
    simp [b_law_cell_at, h]
    simp [e, List.getElem?_eq_getElem h]
  · have e : ns[k]? = none := List.getElem?_eq_none (by omega)
    simp [b_law_cell_at, h, e]

theorem sp_mixed (ns : List Int) (k : Nat) (hk : k ≤ 1000) : ∃ m : Nat, g_law_mixed [.list (ns.map PyData.int), .int (k : Int)] = some (.int (m : Int)) ∧ m < 2147483629 := by
  have hc := sp_cell_at ns k
  generalize ns.getD k 0 = c at hc
  unfold g_law_mixed
  rw [fnD_ap (by rfl)]
  have d0 := Int.emod_nonneg ((c + 7919 * (k : Int) + 1) * 48271) (show (2147483647 : Int) ≠ 0 by decide)
  have d1 := Int.emod_lt_of_pos ((c + 7919 * (k : Int) + 1) * 48271) (show (0 : Int) < 2147483647 by decide)
  generalize hd : (c + 7919 * (k : Int) + 1) * 48271 % 2147483647 = d at d0 d1
  have r0 := Int.emod_nonneg (d * d + 7 * d + (k : Int)) (show (2147483629 : Int) ≠ 0 by decide)
  have r1 := Int.emod_lt_of_pos (d * d + 7 * d + (k : Int)) (show (0 : Int) < 2147483629 by decide)
  refine ⟨((d * d + 7 * d + (k : Int)) % 2147483629).toNat, ?_, by omega⟩
  simp [b_law_mixed, hc]
  rw [mulD_l (by omega)]
  simp
  rw [mulD_r (by omega)]
  simp [modD_i (show (0 : Int) < 2147483647 by decide), hd]
  rw [mulD_l (by omega), mulD_l (by omega)]
  simp [modD_i (show (0 : Int) < 2147483629 by decide)]
  omega
theorem mx (ns : List Int) (k : Int) (h : 0 ≤ k ∧ k ≤ 1000 := by decide) : ∃ m : Nat, g_law_mixed [.list (ns.map PyData.int), .int k] = some (.int (m : Int)) ∧ m < 2147483629 := by
  obtain ⟨j, rfl⟩ : ∃ j : Nat, k = (j : Int) := ⟨k.toNat, by omega⟩
  exact sp_mixed ns j (by omega)
theorem wide_of (m : Nat) (k : Nat) (c : Nat) (hk : 0 < k := by decide) : ∃ w : Nat, (c : Int) + (m : Int) % (k : Int) = (w : Int) ∧ c ≤ w ∧ w < c + k :=
  ⟨c + m % k, by rw [Int.natCast_add, Int.natCast_emod], by omega, by have := Nat.mod_lt m hk; omega⟩

def drawnT (x k : Int) : Int := ((x + 104729 * k + 17) * 69621 % 2147483647 * ((x + 104729 * k + 17) * 69621 % 2147483647) + 3 * ((x + 104729 * k + 17) * 69621 % 2147483647) + k) % 2147483629
theorem drawnT_nn (x k : Int) : 0 ≤ drawnT x k := Int.emod_nonneg _ (by decide)
theorem drawnT_lt (x k : Int) : drawnT x k < 2147483629 := Int.emod_lt_of_pos _ (by decide)
theorem sp_drawn (x k : Int) : g_law_drawn [.int x, .int k] = some (.int (drawnT x k)) := by
  unfold g_law_drawn drawnT
  rw [fnD_ap (by rfl)]
  have d0 := Int.emod_nonneg ((x + 104729 * k + 17) * 69621) (show (2147483647 : Int) ≠ 0 by decide)
  have d1 := Int.emod_lt_of_pos ((x + 104729 * k + 17) * 69621) (show (0 : Int) < 2147483647 by decide)
  simp [b_law_drawn]
  rw [mulD_l (by omega)]
  simp
  rw [mulD_r (by omega)]
  simp [modD_i (show (0 : Int) < 2147483647 by decide)]
  generalize (x + 104729 * k + 17) * 69621 % 2147483647 = d at d0 d1 ⊢
  rw [mulD_l (by omega), mulD_l (by omega)]
  simp [modD_i (show (0 : Int) < 2147483629 by decide)]

def swapT (x : Int) (w : Nat) : Nt.Sw := ((x % (w : Int)).toNat, ((x % (w : Int) + 1 + x / 8 % ((w : Int) - 1)) % (w : Int)).toNat)
theorem swapT_ok (x : Int) {w : Nat} (hw : 2 ≤ w) : Nt.SwOk w (swapT x w) := by
  have a0 := Int.emod_nonneg x (show (w : Int) ≠ 0 by omega)
  have a1 := Int.emod_lt_of_pos x (show (0 : Int) < w by omega)
  have b0 := Int.emod_nonneg (x / 8) (show (w : Int) - 1 ≠ 0 by omega)
  have b1 := Int.emod_lt_of_pos (x / 8) (show (0 : Int) < (w : Int) - 1 by omega)
  unfold swapT
  generalize x % (w : Int) = a at a0 a1 ⊢
  generalize x / 8 % ((w : Int) - 1) = b at b0 b1 ⊢
  have c : (a + 1 + b) % (w : Int) = if a + 1 + b < w then a + 1 + b else a + 1 + b - w := by
    split
    · exact Int.emod_eq_of_lt (by omega) (by omega)
    · rw [← Int.sub_emod_right, Int.emod_eq_of_lt (by omega) (by omega)]
  rw [c]
  refine ⟨?_, ?_, ?_⟩
  · show a.toNat < w
    omega
  · simp only
    split <;> omega
  · simp only
    split <;> omega
theorem sp_swap (x : Int) {w : Nat} (hw : 2 ≤ w) : g_law_swap [.int x, .int (w : Int)] = some (swD (swapT x w)) := by
  have a0 := Int.emod_nonneg x (show (w : Int) ≠ 0 by omega)
  have c0 := Int.emod_nonneg (x % (w : Int) + 1 + x / 8 % ((w : Int) - 1)) (show (w : Int) ≠ 0 by omega)
  unfold g_law_swap
  rw [fnD_ap (by rfl)]
  simp [b_law_swap, modD_i (show (0 : Int) < (w : Int) by omega), modD_i (show (0 : Int) < (w : Int) - 1 by omega), fdivD_i (show (0 : Int) < 8 ∧ (8 : Int) < 1073741824 by decide), swD, swapT]
  omega

def bubT (w : Nat) : Nt.Net := (List.range w).flatMap fun k => (List.range (w - 1 - k)).map fun l => (l, l + 1)
theorem bub_sp : ∀ w : Fin 9, g_law_bubble [.int ((w.val : Nat) : Int)] = some (.list ((bubT w.val).map swD))
  | 0 => by kernel_rfl
  | 1 => by kernel_rfl
  | 2 => by kernel_rfl
  | 3 => by kernel_rfl
  | 4 => by kernel_rfl
  | 5 => by kernel_rfl
  | 6 => by kernel_rfl
  | 7 => by kernel_rfl
  | 8 => by kernel_rfl
theorem sp_bubble {w : Nat} (hw : w ≤ 8) : g_law_bubble [.int (w : Int)] = some (.list ((bubT w).map swD)) := bub_sp ⟨w, by omega⟩
theorem bubT_ok (w : Nat) : Nt.Ok w (bubT w) := fun p hp => by
  unfold bubT at hp
  obtain ⟨k, hk, hp⟩ := List.mem_flatMap.mp hp
  obtain ⟨l, hl, rfl⟩ := List.mem_map.mp hp
  rw [List.mem_range] at hk hl
  exact ⟨by simp only; omega, by simp only; omega, by simp only; omega⟩
theorem bubT_len {w : Nat} (hw : w ≤ 8) : (bubT w).length ≤ 28 := (show ∀ w : Fin 9, (bubT w.val).length ≤ 28 by decide +kernel) ⟨w, by omega⟩
theorem bubT_pos {w : Nat} (h1 : 2 ≤ w) (hw : w ≤ 8) : 1 ≤ (bubT w).length := (show ∀ w : Fin 9, 2 ≤ w.val → 1 ≤ (bubT w.val).length by decide +kernel) ⟨w, by omega⟩ h1

def st9 (x w m kd : Int) (n : Nt.Net) (a : Option W) : En := [some (.im (.int x)), some (.im (.int w)), some (.im (.int m)), some (.im (.int kd)), some (.im (.list (n.map swD))), a, none, none, none]
theorem net_first {x : Int} {w m : Nat} (hw : 2 ≤ w) (hm : m ≤ 1000) (kd : Int) (hx : 0 ≤ x) : ∃ n : Nt.Net, Nt.Ok w n ∧ n.length ≤ m ∧
    sAsg (eL (eLc (eNL rg1 (eCons (e2 modD (eVar 0) (e2 addD (eVar 2) (eC (.int 1)))) eNil)) splN [6] [6] tYesD (eN g_law_swap (eCons (eN g_law_drawn (eCons (eVar 0) (eCons (eVar 6) eNil))) (eCons (eVar 1) eNil))))) (gN 4)
      [some (.im (.int x)), some (.im (.int (w : Int))), some (.im (.int (m : Int))), some (.im (.int kd)), none, none, none, none, none] = some (.nx (st9 x w m kd n none)) := by
  have a0 := Int.emod_nonneg x (show (m : Int) + 1 ≠ 0 by omega)
  have a1 := Int.emod_lt_of_pos x (show (0 : Int) < (m : Int) + 1 by omega)
  refine ⟨(List.range (x % ((m : Int) + 1)).toNat).map fun i => swapT (drawnT x ((i : Nat) : Int)) w, fun p hp => ?_, by rw [List.length_map, List.length_range]; omega, ?_⟩
  · obtain ⟨i, _, rfl⟩ := List.mem_map.mp hp
    exact swapT_ok _ hw
  · simp [modD_i (show (0 : Int) < (m : Int) + 1 by omega)]
    rw [rg1_i ⟨a0, by omega⟩]
    simp [rng0]
    rw [lcD_mapN _ (fun i => swD (swapT (drawnT x ((i : Nat) : Int)) w))]
    · simp [st9, List.map_map, Function.comp_def]
    · intro i _
      simp [sp_drawn, sp_swap _ hw]
theorem net_min {x m kd : Int} {w : Nat} {n : Nt.Net} (ok : Nt.Ok w n) : ∃ n' : Nt.Net, Nt.Ok w n' ∧ n'.length ≤ n.length ∧
    sIf (tB (e2 eqD (eVar 3) (eC (.int 1)))) (sAsg (eL (eLc (iSq (eVar 4)) (splT 2) [7, 8] [7, 8] tYesD (eN mkT (eCons (eN minD2 (eCons (eVar 7) (eCons (eVar 8) eNil))) (eCons (eN maxD2 (eCons (eVar 7) (eCons (eVar 8) eNil))) eNil))))) (gN 4)) sNil (st9 x w m kd n none) = some (.nx (st9 x w m kd n' none)) := by
  by_cases h : kd = 1
  · refine ⟨n.map fun p => (min p.1 p.2, max p.1 p.2), fun q hq => ?_, by rw [List.length_map]; exact Nat.le_refl _, ?_⟩
    · obtain ⟨p, hp, rfl⟩ := List.mem_map.mp hq
      obtain ⟨h1, h2, h3⟩ := ok p hp
      exact ⟨by simp only; omega, by simp only; omega, by simp only; omega⟩
    · simp [st9, h]
      rw [lcD_map swD (fun p => [.int p.1, .int p.2]) (fun p => swD (min p.1 p.2, max p.1 p.2))]
      · simp [List.map_map, Function.comp_def]
      · intro p _
        simp [swD, minD2_i, maxD2_i]
        omega
  · exact ⟨n, ok, Nat.le_refl _, by simp [st9, h]⟩
theorem net_next {x m kd : Int} {w : Nat} {n : Nt.Net} (hw : 2 ≤ w) (ok : Nt.Ok w n) : ∃ n' : Nt.Net, Nt.Ok w n' ∧ n'.length ≤ n.length ∧
    sIf (tB (e2 eqD (eVar 3) (eC (.int 2)))) (sAsg (eL (eLc (iSq (eVar 4)) (splT 2) [7, 8] [7, 8] tYesD (eN mkT (eCons (e2 modD (eVar 7) (e2 subD (eVar 1) (eC (.int 1)))) (eCons (e2 addD (e2 modD (eVar 7) (e2 subD (eVar 1) (eC (.int 1)))) (eC (.int 1))) eNil))))) (gN 4)) sNil (st9 x w m kd n none) = some (.nx (st9 x w m kd n' none)) := by
  by_cases h : kd = 2
  · refine ⟨n.map fun p => (p.1 % (w - 1), p.1 % (w - 1) + 1), fun q hq => ?_, by rw [List.length_map]; exact Nat.le_refl _, ?_⟩
    · obtain ⟨p, hp, rfl⟩ := List.mem_map.mp hq
      have := Nat.mod_lt p.1 (show w - 1 > 0 by omega)
      exact ⟨by simp only; omega, by simp only; omega, by simp only; omega⟩
    · simp [st9, h]
      rw [lcD_map swD (fun p => [.int p.1, .int p.2]) (fun p => swD (p.1 % (w - 1), p.1 % (w - 1) + 1))]
      · simp [List.map_map, Function.comp_def]
      · intro p _
        have e : ((p.1 % (w - 1) : Nat) : Int) = (p.1 : Int) % ((w : Int) - 1) := by
          rw [Int.natCast_emod, Int.natCast_sub (by omega)]
          rfl
        simp [swD, modD_i (show (0 : Int) < (w : Int) - 1 by omega), e]
  · exact ⟨n, ok, Nat.le_refl _, by simp [st9, h]⟩
theorem net_last {x m kd : Int} {w : Nat} {n : Nt.Net} (hx : 0 ≤ x) (hw : 2 ≤ w) (hw8 : w ≤ 8) (ok : Nt.Ok w n) (hn : n.length ≤ 1000) : ∃ (n' : Nt.Net) (a : Option W), Nt.Ok w n' ∧ n'.length ≤ max n.length 33 ∧
    sIf (tB (e2 eqD (eVar 3) (eC (.int 3)))) (sSeq (sAsg (e2 addD (eSl (eVar 4) oNo (oSo (e2 mulD2 (eC (.int 5)) (e2 modD (e2 fdivD (eVar 0) (eC (.int 256))) (eC (.int 2)))))) (eN g_law_bubble (eCons (eVar 1) eNil))) (gN 4))
  (sIf (tB (e2 eqD (e2 modD (e2 fdivD (eVar 0) (eC (.int 512))) (eC (.int 2))) (eC (.int 1)))) (sSeq (sAsg (e2 modD (e2 fdivD (eVar 0) (eC (.int 1024))) (eN lenD (eCons (eVar 4) eNil))) (gN 5))
  (sAsg (e2 addD (eSl (eVar 4) oNo (oSo (eVar 5))) (eSl (eVar 4) (oSo (e2 addD (eVar 5) (eC (.int 1)))) oNo)) (gN 4))) sNil)) sNil (st9 x w m kd n none) = some (.nx (st9 x w m kd n' a)) := by
  by_cases h : kd = 3
  · have f1 : (0 : Int) < 256 ∧ (256 : Int) < 1073741824 := by decide
    have f2 : (0 : Int) < 512 ∧ (512 : Int) < 1073741824 := by decide
    have f3 : (0 : Int) < 1024 ∧ (1024 : Int) < 1073741824 := by decide
    have g2 : (0 : Int) < 2 := by decide
    have hb := sp_bubble hw8
    have hbl := bubT_len hw8
    have hbp := bubT_pos hw hw8
    obtain ⟨k, hk, hk5⟩ : ∃ k : Nat, 5 * (x / 256 % 2) = (k : Int) ∧ k ≤ 5 := ⟨(5 * (x / 256 % 2)).toNat, by omega, by omega⟩
    have h1l : (n.take k ++ bubT w).length ≤ 33 := by rw [List.length_append, List.length_take]; omega
    have h1p : 1 ≤ (n.take k ++ bubT w).length := by rw [List.length_append]; omega
    have h1o : Nt.Ok w (n.take k ++ bubT w) := (ok.take k).app (bubT_ok w)
    have e1 : addD (.list (cutD (n.map swD) none (some (5 * (x / 256 % 2))))) (.list ((bubT w).map swD)) = some (.list ((n.take k ++ bubT w).map swD)) := by
      rw [hk, cut_to, addD_l (by rw [List.length_take, List.length_map, List.length_map]; omega), List.map_append, List.map_take]
    by_cases h2 : x / 512 % 2 = 1
    · generalize n.take k ++ bubT w = n1 at h1l h1p h1o e1
      obtain ⟨j, hj⟩ : ∃ j : Nat, x / 1024 % (n1.length : Int) = (j : Int) := ⟨(x / 1024 % (n1.length : Int)).toNat, by
        have := Int.emod_nonneg (x / 1024) (show (n1.length : Int) ≠ 0 by omega)
        omega⟩
      refine ⟨n1.take j ++ n1.drop (j + 1), some (.im (.int (j : Int))), (h1o.take j).app (h1o.drop _), by rw [List.length_append, List.length_take, List.length_drop]; omega, ?_⟩
      simp [st9, h, fdivD_i f1, fdivD_i f2, fdivD_i f3, modD_i g2, mulD_l (show -(2 ^ 64 : Int) < 5 ∧ (5 : Int) < 2 ^ 64 by decide), hb, e1, h2, modD_i (show (0 : Int) < (n1.length : Int) by omega), hj, cut_to]
      rw [show (j : Int) + 1 = ((j + 1 : Nat) : Int) by omega, cut_from, addD_l (by rw [List.length_take, List.length_drop, List.length_map]; omega)]
      simp
    · refine ⟨n.take k ++ bubT w, none, h1o, by omega, ?_⟩
      simp [st9, h, fdivD_i f1, fdivD_i f2, modD_i g2, mulD_l (show -(2 ^ 64 : Int) < 5 ∧ (5 : Int) < 2 ^ 64 by decide), hb, e1, h2]
  · exact ⟨n, none, ok, by omega, by simp [st9, h]⟩
theorem sp_net {x w m : Nat} (h1 : 1 ≤ w) (h8 : w ≤ 8) (hm : m ≤ 1000) : ∃ n : Nt.Net, g_law_net [.int (x : Int), .int (w : Int), .int (m : Int)] = some (netD n) ∧ Nt.Ok w n ∧ n.length ≤ max m 33 := by
  unfold g_law_net
  rw [fnD_ap (by rfl)]
  by_cases hw : w = 1
  · refine ⟨[], ?_, .nil w, by simp⟩
    subst hw
    simp [b_law_net, netD]
  · obtain ⟨n1, o1, l1, e1⟩ := net_first (x := x) (w := w) (m := m) (by omega) hm ((x : Int) / 64 % 4) (by omega)
    obtain ⟨n2, o2, l2, e2⟩ := net_min (x := x) (m := m) (kd := (x : Int) / 64 % 4) o1
    obtain ⟨n3, o3, l3, e3⟩ := net_next (x := x) (m := m) (kd := (x : Int) / 64 % 4) (by omega) o2
    obtain ⟨n4, a, o4, l4, e4⟩ := net_last (x := x) (m := m) (kd := (x : Int) / 64 % 4) (by omega) (by omega) h8 o3 (by omega)
    refine ⟨n4, ?_, o4, by omega⟩
    have hw' : ¬ (w : Int) = 1 := by omega
    unfold b_law_net
    rw [sSeq_ap]
    have z1 : sIf (tB (Dv.e2 eqD (eVar 1) (eC (.int 1)))) (sRet (eN mkT eNil)) sNil (List.map (fun d => some (W.im d)) [PyData.int (x : Int), .int (w : Int), .int (m : Int)] ++ List.replicate 6 none) = some (.nx [some (.im (.int (x : Int))), some (.im (.int (w : Int))), some (.im (.int (m : Int))), none, none, none, none, none, none]) := by
      simp [hw', List.replicate]
    rw [z1, Option.bind_some, thenD_nx, sSeq_ap]
    have z2 : sAsg (Dv.e2 modD (Dv.e2 fdivD (eVar 0) (eC (.int 64))) (eC (.int 4))) (gN 3) [some (.im (.int (x : Int))), some (.im (.int (w : Int))), some (.im (.int (m : Int))), none, none, none, none, none, none] = some (.nx [some (.im (.int (x : Int))), some (.im (.int (w : Int))), some (.im (.int (m : Int))), some (.im (.int ((x : Int) / 64 % 4))), none, none, none, none, none]) := by
      simp [fdivD_i (show (0 : Int) < 64 ∧ (64 : Int) < 1073741824 by decide), modD_i (show (0 : Int) < 4 by decide)]
    rw [z2, Option.bind_some, thenD_nx, sSeq_ap, e1, Option.bind_some, thenD_nx, sSeq_ap, e2, Option.bind_some, thenD_nx, sSeq_ap, e3, Option.bind_some, thenD_nx, sSeq_ap, e4, Option.bind_some, thenD_nx]
    simp [st9, netD]
theorem nx_ {x w : Nat} (m : Int) (h1 : 1 ≤ w) (h8 : w ≤ 8) (hm : 0 ≤ m ∧ m ≤ 1000 := by decide) : ∃ n : Nt.Net, g_law_net [.int (x : Int), .int (w : Int), .int m] = some (netD n) ∧ Nt.Ok w n ∧ n.length ≤ max m.toNat 33 := by
  obtain ⟨j, rfl⟩ : ∃ j : Nat, m = (j : Int) := ⟨m.toNat, by omega⟩
  exact sp_net h1 h8 (by omega)

theorem law_run_loop : ∀ (n : Nt.Net) (r : Nt.Row) (N R : PyData) (x y z : Option W), Nt.Ok r.length n → ∃ x' y' z', forD (gT 2 (gConsD (gN 3) (gConsD (gN 4) gNilD))) (sSeq (sAsg (eN minD2 (eCons (eIdxM 2 (eVar 3)) (eCons (eIdxM 2 (eVar 4)) eNil))) (gN 5))
  (sSeq (sAsg (eN maxD2 (eCons (eIdxM 2 (eVar 3)) (eCons (eIdxM 2 (eVar 4)) eNil))) (gSubM 2 (eVar 4)))
  (sAsg (eVar 5) (gSubM 2 (eVar 3))))) (n.map swD) [some (.im N), some (.im R), some (.ml (r.map .int)), x, y, z] = some (.nx [some (.im N), some (.im R), some (.ml ((Nt.run n r).map .int)), x', y', z'])
  | [], r, N, R, x, y, z, _ => ⟨x, y, z, rfl⟩
  | p :: n, r, N, R, x, y, z, ok => by
    obtain ⟨a, b⟩ := p
    obtain ⟨h1, h2, h3⟩ := ok.head
    simp only at h1 h2 h3
    obtain ⟨x', y', z', ih⟩ := law_run_loop n (Nt.sw (a, b) r) N R (some (.im (.int a))) (some (.im (.int b))) (some (.im (.int (min (r.getD a 0) (r.getD b 0))))) (by rw [Nt.sw_len]; exact ok.tail)
    refine ⟨x', y', z', ?_⟩
    rw [Nt.run_cons, ← ih]
    have e1 := at_row h1
    have e2 := at_row h2
    have e3 : (Nt.sw (a, b) r) = (r.set b (max (r.getD a 0) (r.getD b 0))).set a (min (r.getD a 0) (r.getD b 0)) := by
      unfold Nt.sw Nt.lo Nt.hi
      rw [List.set_comm _ _ h3]
    simp [swD, eIdxM_ap, e1, e2, minD2_i, maxD2_i, ixN_nat, h1, h2, e3]
theorem sp_law_run {n : Nt.Net} {r : Nt.Row} (ok : Nt.Ok r.length n) : g_law_run [netD n, rowD r] = some (rowD (Nt.run n r)) := by
  obtain ⟨x, y, z, h⟩ := law_run_loop n r (netD n) (rowD r) none none none ok
  unfold g_law_run
  rw [fnD_ap (by rfl)]
  simp [b_law_run, netD, rowD] at h ⊢
  simp [h]

theorem ord_filter (r : Nt.Row) : ((List.range (r.length - 1)).filter fun i => decide (r.getD (i + 1) 0 < r.getD i 0)).isEmpty = Nt.ord r := by
  rw [Bool.eq_iff_iff, Nt.ord_iff, List.isEmpty_iff, List.filter_eq_nil_iff]
  constructor
  · intro h i hi
    have := h i (by rw [List.mem_range]; omega)
    rw [decide_eq_true_eq] at this
    omega
  · intro h i hi
    rw [List.mem_range] at hi
    have := h i (by omega)
    rw [decide_eq_true_eq]
    omega
theorem sp_law_in_order {r : Nt.Row} (hr : r.length ≤ 1000) : g_law_in_order [rowD r] = some (.bool (Nt.ord r)) := by
  unfold g_law_in_order
  rw [fnD_ap (by rfl)]
  have e0 : rg2 [.int 1, .int (r.length : Int)] = some ((List.range (r.length - 1)).map fun i => PyData.int (((i + 1 : Nat)) : Int)) := by
    rw [rg2_i ⟨by omega, by omega, by omega, by omega⟩]
    unfold rng
    rw [show ((r.length : Int) - 1).toNat = r.length - 1 by omega]
    congr 1
    refine List.map_congr_left fun i _ => ?_
    rw [Int.add_comm]
    rfl
  have e1 : lcD splN [1] (tB (e2 gtD (e2 idxD (eVar 0) (e2 subD (eVar 1) (eC (.int 1)))) (e2 idxD (eVar 0) (eVar 1)))) (eVar 1) [some (.im (rowD r)), none] ((List.range (r.length - 1)).map fun i => PyData.int (((i + 1 : Nat)) : Int)) = some (((List.range (r.length - 1)).filter fun i => decide (r.getD (i + 1) 0 < r.getD i 0)).map fun i => PyData.int (((i + 1 : Nat)) : Int)) := by
    refine lcD_filN _ _ _ _ fun i hi => ?_
    rw [List.mem_range] at hi
    have a1 := at_row (r := r) (k := i) (by omega)
    have a2 := at_row (r := r) (k := i + 1) (by omega)
    have e : ((i + 1 : Nat) : Int) - 1 = (i : Int) := by omega
    simp only [rowD]
    simp only [Dv.e2_ap, tB_ap, eVar_0, eVar_s, eC_ap, List.set_cons_succ, List.set_cons_zero, Option.bind_some, subD_i, idxD_t, e, a1, a2, gtD_i, asB_b]
    simp
  have hn : eqD (.list (((List.range (r.length - 1)).filter fun i => decide (r.getD (i + 1) 0 < r.getD i 0)).map fun i => PyData.int (((i + 1 : Nat)) : Int))) (.list []) = some (.bool (Nt.ord r)) := by
    rw [eqD_nil (n := 0) (fun d hd => by obtain ⟨i, _, rfl⟩ := List.mem_map.mp hd; exact pl_int), List.isEmpty_map, ord_filter]
  simp only [rowD] at e1 ⊢
  simp only [b_law_in_order, sRet_ap, Dv.e2_ap, eL_ap, eLc_ap, eNL_ap, eN_ap, eCons_ap, eNil_ap, eC_ap, List.map_cons, List.map_nil, List.replicate, List.cons_append, List.nil_append, eVar_0, Option.bind_some, Option.map_some, lenD_t, List.length_map, e0, wipeE_c, wipeE_0, List.set_cons_succ, List.set_cons_zero, e1, mkL_0, hn, outD_rt]

theorem sp_row (ns : List Int) (a w x : Nat) (hw : w ≤ 8) (ha : a ≤ 100) : ∃ r : Nt.Row, g_law_row [.list (ns.map PyData.int), .int (a : Int), .int (w : Int), .int (x : Int)] = some (rowD r) ∧ r.length = w := by
  unfold g_law_row
  rw [fnD_ap (by rfl)]
  have e0 : rg1 [.int (w : Int)] = some ((List.range w).map fun i => PyData.int ((i : Nat) : Int)) := by
    rw [rg1_i ⟨by omega, by omega⟩, rng0]
    rfl
  have e1 : ∀ o : List (Option W), lcD splN [5] tYesD (eN g_law_cell_at (eCons (eVar 0) (eCons (e2 addD (eVar 1) (eVar 5)) eNil))) (some (.im (.list (ns.map PyData.int))) :: some (.im (.int (a : Int))) :: some (.im (.int (w : Int))) :: some (.im (.int (x : Int))) :: none :: none :: o) ((List.range w).map fun i => PyData.int ((i : Nat) : Int)) = some (((List.range w).map fun i => ns.getD (a + i) 0).map .int) := fun o => by
    rw [lcD_mapN _ (fun i => .int (ns.getD (a + i) 0))]
    · rw [List.map_map]; rfl
    · intro i _
      have := sp_cell_at ns (a + i)
      rw [show ((a + i : Nat) : Int) = (a : Int) + (i : Int) by omega] at this
      simp [this]
  have g3 : (0 : Int) < 3 := by decide
  have g2 : (0 : Int) < 2 := by decide
  have g4 : (0 : Int) < 4 := by decide
  have f3 : (0 : Int) < 3 ∧ (3 : Int) < 1073741824 := by decide
  generalize hr0 : (List.range w).map (fun i => ns.getD (a + i) 0) = r0 at e1
  have hl0 : r0.length = w := by rw [← hr0, List.length_map, List.length_range]
  have e2 : ∀ ρ : En, ρ = [some (.im (.list (ns.map PyData.int))), some (.im (.int (a : Int))), some (.im (.int (w : Int))), some (.im (.int (x : Int))), some (.im (.list (r0.map .int))), none, none] → lcD splN [6] tYesD (e2 modD (eVar 6) (eC (.int 2))) ρ (r0.map .int) = some ((r0.map fun v => v % 2).map .int) := fun ρ h => by
    subst h
    rw [lcD_mapN _ (fun v => .int (v % 2))]
    · rw [List.map_map]; rfl
    · intro i _
      simp [modD_i g2]
  have e3 : ∀ ρ : En, ρ = [some (.im (.list (ns.map PyData.int))), some (.im (.int (a : Int))), some (.im (.int (w : Int))), some (.im (.int (x : Int))), some (.im (.list (r0.map .int))), none, none] → ∃ r : Nt.Row, r.length = w ∧ lcD splN [5] tYesD (Dv.e2 modD (eN g_law_drawn (eCons (eVar 3) (eCons (eVar 5) eNil))) (Dv.e2 idxD (eN mkT (eCons (eC (.int 2)) (eCons (eC (.int 3)) (eCons (eC (.int 9)) (eCons (eC (.int 1000)) eNil))))) (Dv.e2 modD (Dv.e2 fdivD (eVar 3) (eC (.int 3))) (eC (.int 4))))) ρ ((List.range w).map fun i => PyData.int ((i : Nat) : Int)) = some (r.map .int) := fun ρ h => by
    subst h
    obtain ⟨c, hc, hc0⟩ : ∃ c : Int, atI [PyData.int 2, .int 3, .int 9, .int 1000] ((x : Int) / 3 % 4) = some (.int c) ∧ 0 < c := by
      obtain ⟨k, hk, hk4⟩ : ∃ k : Nat, (x : Int) / 3 % 4 = (k : Int) ∧ k < 4 := ⟨((x : Int) / 3 % 4).toNat, by omega, by omega⟩
      rw [hk]
      match k, hk4 with
      | 0, _ => exact ⟨2, rfl, by decide⟩
      | 1, _ => exact ⟨3, rfl, by decide⟩
      | 2, _ => exact ⟨9, rfl, by decide⟩
      | 3, _ => exact ⟨1000, rfl, by decide⟩
    refine ⟨(List.range w).map fun i => drawnT (x : Int) ((i : Nat) : Int) % c, by rw [List.length_map, List.length_range], ?_⟩
    rw [lcD_mapN _ (fun i => .int (drawnT (x : Int) ((i : Nat) : Int) % c))]
    · rw [List.map_map]; rfl
    · intro i _
      have m4 : mkT [PyData.int 2, .int 3, .int 9, .int 1000] = some (.tuple [.int 2, .int 3, .int 9, .int 1000]) := mkT_ap (by simp)
      simp [sp_drawn, m4, fdivD_i f3, modD_i g4, hc, modD_i hc0]
  by_cases h1 : (x : Int) % 3 = 1
  · refine ⟨r0.map fun v => v % 2, ?_, by rw [List.length_map]; exact hl0⟩
    simp [b_law_row, e0, e1, modD_i g3, h1, e2, rowD]
  · by_cases h2 : (x : Int) % 3 = 2
    · obtain ⟨r, hl, e⟩ := e3 _ rfl
      refine ⟨r, ?_, hl⟩
      simp [b_law_row, e0, e1, modD_i g3, h1, h2, rowD]
      simp [e]
    · refine ⟨r0, ?_, hl0⟩
      simp [b_law_row, e0, e1, modD_i g3, h1, h2, rowD]
theorem rx (ns : List Int) (a : Int) (w x : Nat) (hw : w ≤ 8) (ha : 0 ≤ a ∧ a ≤ 100 := by decide) : ∃ r : Nt.Row, g_law_row [.list (ns.map PyData.int), .int a, .int (w : Int), .int (x : Int)] = some (rowD r) ∧ r.length = w := by
  obtain ⟨j, rfl⟩ : ∃ j : Nat, a = (j : Int) := ⟨a.toNat, by omega⟩
  exact sp_row ns j w x hw (by omega)

theorem sp_law_plain_rows {w : Nat} (h : w ≤ 10) : g_law_plain_rows [.int (w : Int)] = some (.list ((Nt.plain w).map rowD)) := sp_plain_rows h

theorem sp_whole (i : Int) : g_law_whole [.int i] = some (.bool true) := by
  unfold g_law_whole
  rw [fnD_ap (by rfl)]
  simp [b_law_whole, kit_ii, kit_ib]

theorem sp_is_swap {p : Nt.Sw} {w : Nat} (h : Nt.SwOk w p) : g_law_is_swap [swD p, .int (w : Int)] = some (.bool true) := by
  obtain ⟨a, b⟩ := p
  obtain ⟨h1, h2, h3⟩ := h
  simp only at h1 h2 h3
  have i0 : atI [PyData.int (a : Int), .int (b : Int)] 0 = some (.int (a : Int)) := rfl
  have i1 : atI [PyData.int (a : Int), .int (b : Int)] 1 = some (.int (b : Int)) := rfl
  have c1 : decide ((0 : Int) ≤ (a : Int)) = true := decide_eq_true (by omega)
  have c2 : decide ((a : Int) < (w : Int)) = true := decide_eq_true (by omega)
  have c3 : decide ((0 : Int) ≤ (b : Int)) = true := decide_eq_true (by omega)
  have c4 : decide ((b : Int) < (w : Int)) = true := decide_eq_true (by omega)
  have c5 : decide ((a : Int) = (b : Int)) = false := decide_eq_false (by omega)
  have l2 : neD (.int (([PyData.int (a : Int), .int (b : Int)].length : Nat) : Int)) (.int 2) = some (.bool false) := by
    rw [neD_i]
    rfl
  unfold g_law_is_swap
  rw [fnD_ap (by rfl)]
  simp only [b_law_is_swap, swD, List.map_cons, List.map_nil, List.replicate, List.cons_append, List.nil_append, sSeq_ap, sIf_ap, tOrD_ap, tNotD_ap, tB_ap, Dv.e1_ap, Dv.e2_ap, eVar_0, eVar_s, Option.bind_some, Option.map_some, kit_tt, asB_b, Bool.not_true, Bool.false_eq_true, if_false, if_true, eN_ap, eCons_ap, eNil_ap, lenD_t, l2, eC_ap, idxD_t, i0, i1, sp_whole, sNil_ap, thenD_nx, sRet_ap, eAnd_ap, eChain_ap, leD_i, ltD_i, c1, c2, c3, c4, neD_i, c5, Bool.not_false, outD_rt]

theorem sp_is_net {n : Nt.Net} {w : Nat} (ok : Nt.Ok w n) (hl : n.length ≤ 40) : g_law_is_net [netD n, .int (w : Int)] = some (.bool true) := by
  unfold g_law_is_net
  rw [fnD_ap (by rfl)]
  have e : lcD splN [2] (tNotD (tB (eN g_law_is_swap (eCons (eVar 2) (eCons (eVar 1) eNil))))) (eVar 2) [some (.im (netD n)), some (.im (.int (w : Int))), none] (n.map swD) = some ((n.filter fun _ => false).map swD) := by
    refine lcD_filN _ _ _ _ fun p hp => ?_
    simp [sp_is_swap (ok p hp)]
  have e2 : (n.filter fun _ => false) = [] := by rw [List.filter_eq_nil_iff]; simp
  rw [e2] at e
  have en : eqD (.list []) (.list []) = some (.bool true) := by
    rw [eqD_nil (n := 0) (by simp)]
    rfl
  have c : decide ((40 : Int) < (n.length : Int)) = false := decide_eq_false (by omega)
  simp only [netD] at e ⊢
  simp only [b_law_is_net, List.map_cons, List.map_nil, List.replicate, List.cons_append, List.nil_append, sSeq_ap, sIf_ap, tOrD_ap, tNotD_ap, tB_ap, Dv.e1_ap, Dv.e2_ap, eVar_0, eVar_s, Option.bind_some, Option.map_some, kit_tt, asB_b, Bool.not_true, Bool.false_eq_true, if_false, eN_ap, eCons_ap, eNil_ap, lenD_t, List.length_map, eC_ap, gtD_i, c, sNil_ap, thenD_nx, sRet_ap, eL_ap, eLc_ap, iSq_ap, asSeq_t, wipeE_c, wipeE_0, List.set_cons_succ, List.set_cons_zero, e, eNL_ap, mkL_0, en, outD_rt]

theorem sp_is_row {r : Nt.Row} {w : Nat} (h : r.length = w) : g_law_is_row [rowD r, .int (w : Int)] = some (.bool true) := by
  unfold g_law_is_row
  rw [fnD_ap (by rfl)]
  have e : lcD splN [2] (tNotD (tB (eN g_law_whole (eCons (eVar 2) eNil)))) (eVar 2) [some (.im (rowD r)), some (.im (.int (w : Int))), none] (r.map PyData.int) = some ((r.filter fun _ => false).map PyData.int) := by
    refine lcD_filN _ _ _ _ fun v _ => ?_
    simp [sp_whole]
  have e2 : (r.filter fun _ => false) = [] := by rw [List.filter_eq_nil_iff]; simp
  rw [e2] at e
  have en : eqD (.list []) (.list []) = some (.bool true) := by
    rw [eqD_nil (n := 0) (by simp)]
    rfl
  simp only [rowD] at e ⊢
  simp only [b_law_is_row, List.map_cons, List.map_nil, List.replicate, List.cons_append, List.nil_append, sRet_ap, eAnd_ap, tB_ap, Dv.e1_ap, Dv.e2_ap, eVar_0, eVar_s, Option.bind_some, kit_tt, asB_b, if_true, eN_ap, eCons_ap, eNil_ap, Option.map_some, lenD_t, List.length_map, h, eqD_i, decide_true, eL_ap, eLc_ap, iSq_ap, asSeq_t, wipeE_c, wipeE_0, List.set_cons_succ, List.set_cons_zero, e, eNL_ap, mkL_0, en, outD_rt]

theorem rows_all (n : Nt.Net) (w a j : Nat) : (((Nt.plain w).map (Nt.run n)).filter fun q => decide (q.getD j 0 < q.getD a 0)).isEmpty = (outT n w).all fun q => decide (q.getD a 0 ≤ q.getD j 0) := by
  rw [Bool.eq_iff_iff, List.isEmpty_iff, List.filter_eq_nil_iff, List.all_eq_true]
  unfold outT
  constructor
  · intro h q hq
    have := h q (ssT_mem.mp hq)
    rw [decide_eq_true_eq] at this ⊢
    omega
  · intro h q hq
    have := h q (ssT_mem.mpr hq)
    rw [decide_eq_true_eq] at this ⊢
    omega
theorem law_in {n : Nt.Net} {w a : Nat} (a0 a3 a4 : Option W) (ok : Nt.Ok w n) (ha : a < w) : ∀ (m j : Nat) (F : Nt.Net) (x8 : Option W), j + m = w → F.length + m ≤ 1000 → ∃ y8, forD (gN 8) (sIf (tAndD (tB (Dv.e2 neD (eVar 7) (eVar 8))) (tB (Dv.e2 eqD (eL (eLc (iSq (eVar 5)) splN [10] [10] (tB (Dv.e2 gtD (Dv.e2 idxD (eVar 10) (eVar 7)) (Dv.e2 idxD (eVar 10) (eVar 8)))) (eVar 10))) (eL (eNL mkL eNil))))) (sApp 6 (eN mkT (eCons (eVar 7) (eCons (eVar 8) eNil)))) sNil) ((List.range' j m).map fun i => PyData.int ((i : Nat) : Int)) (a0 :: (some (.im (.int (w : Int)))) :: (some (.im (netD n))) :: a3 :: a4 :: (some (.im (.list (((Nt.plain w).map (Nt.run n)).map rowD)))) :: (some (.ml (F.map swD))) :: (some (.im (.int (a : Int)))) :: x8 :: [none, none, none]) =
    some (.nx (a0 :: (some (.im (.int (w : Int)))) :: (some (.im (netD n))) :: a3 :: a4 :: (some (.im (.list (((Nt.plain w).map (Nt.run n)).map rowD)))) :: (some (.ml ((F ++ ((List.range' j m).filter (sureB n w a)).map fun b => (a, b)).map swD))) :: (some (.im (.int (a : Int)))) :: y8 :: [none, none, none]))
  | 0, j, F, x8, h, hF => ⟨x8, by simp⟩
  | m + 1, j, F, x8, h, hF => by
    have c1 : lcD splN [10] (tB (Dv.e2 gtD (Dv.e2 idxD (eVar 10) (eVar 7)) (Dv.e2 idxD (eVar 10) (eVar 8)))) (eVar 10) (a0 :: (some (.im (.int (w : Int)))) :: (some (.im (netD n))) :: a3 :: a4 :: (some (.im (.list (((Nt.plain w).map (Nt.run n)).map rowD)))) :: (some (.ml (F.map swD))) :: (some (.im (.int (a : Int)))) :: (some (.im (.int (j : Int)))) :: [none, none, none]) (((Nt.plain w).map (Nt.run n)).map rowD) = some ((((Nt.plain w).map (Nt.run n)).filter fun q => decide (q.getD j 0 < q.getD a 0)).map rowD) := by
      rw [lcD_filN rowD (fun q : Nt.Row => decide (q.getD j 0 < q.getD a 0)) rowD]
      intro q hq
      obtain ⟨p, hp, rfl⟩ := List.mem_map.mp hq
      have lq : (Nt.run n p).length = w := by rw [Nt.run_len]; exact (Nt.plain_mem.mp hp).1
      have i1 := at_row (r := Nt.run n p) (k := a) (by omega)
      have i2 := at_row (r := Nt.run n p) (k := j) (by omega)
      simp only [rowD, List.set_cons_succ, List.set_cons_zero, tB_ap, Dv.e2_ap, eVar_0, eVar_s, Option.bind_some, idxD_t, i1, i2, gtD_i, asB_b]
      exact ⟨trivial, fun _ => trivial⟩
    have due : eqD (.list ((((Nt.plain w).map (Nt.run n)).filter fun q => decide (q.getD j 0 < q.getD a 0)).map rowD)) (.list []) = some (.bool ((outT n w).all fun q => decide (q.getD a 0 ≤ q.getD j 0))) := by
      rw [eqD_nil (n := 1) (fun d hd => by obtain ⟨p, _, rfl⟩ := List.mem_map.mp hd; exact pl_row p), List.isEmpty_map, rows_all]
    have ap : (F.map swD).length < 16777216 := by rw [List.length_map]; omega
    have tst : (tAndD (tB (Dv.e2 neD (eVar 7) (eVar 8))) (tB (Dv.e2 eqD (eL (eLc (iSq (eVar 5)) splN [10] [10] (tB (Dv.e2 gtD (Dv.e2 idxD (eVar 10) (eVar 7)) (Dv.e2 idxD (eVar 10) (eVar 8)))) (eVar 10))) (eL (eNL mkL eNil))))) (a0 :: (some (.im (.int (w : Int)))) :: (some (.im (netD n))) :: a3 :: a4 :: (some (.im (.list (((Nt.plain w).map (Nt.run n)).map rowD)))) :: (some (.ml (F.map swD))) :: (some (.im (.int (a : Int)))) :: (some (.im (.int (j : Int)))) :: [none, none, none]) = some (sureB n w a j) := by
      have ne : neD (.int (a : Int)) (.int (j : Int)) = some (.bool (decide (a ≠ j))) := by
        rw [neD_i]
        congr 2
        by_cases c : a = j
        · rw [decide_eq_true (show (a : Int) = j by omega), decide_eq_false (fun z => z c)]
          rfl
        · rw [decide_eq_false (show ¬ (a : Int) = j by omega), decide_eq_true c]
          rfl
      simp only [tAndD_ap, tB_ap, Dv.e2_ap, eL_ap, eLc_ap, eNL_ap, eNil_ap, iSq_ap, eVar_0, eVar_s, Option.bind_some, Option.map_some, ne, asB_b, asSeq_l, wipeE_c, wipeE_0, List.set_cons_succ, List.set_cons_zero, mkL_0]
      rw [show ∀ g, lcD splN [10] g (eVar 10) = lcD splN [10] g (eVar 10) from fun _ => rfl] at c1
      rw [c1]
      simp only [Option.bind_some, Option.map_some, due, asB_b]
      unfold sureB
      by_cases c : a ≠ j
      · rw [decide_eq_true c, if_pos rfl, Bool.true_and]
      · rw [decide_eq_false c, if_neg Bool.false_ne_true, Bool.false_and]
    rw [List.range'_succ, List.map_cons, forD_cons, gN_ap, Option.bind_some]
    simp only [List.set_cons_succ, List.set_cons_zero]
    by_cases c : sureB n w a j = true
    · obtain ⟨y8, ih⟩ := law_in a0 a3 a4 ok ha m (j + 1) (F ++ [(a, j)]) (some (.im (.int (j : Int)))) (by omega) (by rw [List.length_append, List.length_singleton]; omega)
      refine ⟨y8, ?_⟩
      rw [List.filter_cons_of_pos c, List.map_cons]
      rw [List.append_assoc] at ih
      have z : (sIf (tAndD (tB (Dv.e2 neD (eVar 7) (eVar 8))) (tB (Dv.e2 eqD (eL (eLc (iSq (eVar 5)) splN [10] [10] (tB (Dv.e2 gtD (Dv.e2 idxD (eVar 10) (eVar 7)) (Dv.e2 idxD (eVar 10) (eVar 8)))) (eVar 10))) (eL (eNL mkL eNil))))) (sApp 6 (eN mkT (eCons (eVar 7) (eCons (eVar 8) eNil)))) sNil) (a0 :: (some (.im (.int (w : Int)))) :: (some (.im (netD n))) :: a3 :: a4 :: (some (.im (.list (((Nt.plain w).map (Nt.run n)).map rowD)))) :: (some (.ml (F.map swD))) :: (some (.im (.int (a : Int)))) :: (some (.im (.int (j : Int)))) :: [none, none, none]) = some (.nx (a0 :: (some (.im (.int (w : Int)))) :: (some (.im (netD n))) :: a3 :: a4 :: (some (.im (.list (((Nt.plain w).map (Nt.run n)).map rowD)))) :: (some (.ml ((F ++ [(a, j)]).map swD))) :: (some (.im (.int (a : Int)))) :: (some (.im (.int (j : Int)))) :: [none, none, none])) := by
        rw [sIf_ap, tst, Option.bind_some, if_pos c]
        simp only [sApp_ap, eN_ap, eCons_ap, eNil_ap, eVar_0, eVar_s, Option.bind_some, Option.map_some, mkT_2, appK_s, appK_0 ap]
        rw [List.map_append]
        rfl
      rw [z, Option.bind_some, loopD_nx]
      exact ih
    · obtain ⟨y8, ih⟩ := law_in a0 a3 a4 ok ha m (j + 1) F (some (.im (.int (j : Int)))) (by omega) (by omega)
      refine ⟨y8, ?_⟩
      rw [List.filter_cons_of_neg c]
      have z : (sIf (tAndD (tB (Dv.e2 neD (eVar 7) (eVar 8))) (tB (Dv.e2 eqD (eL (eLc (iSq (eVar 5)) splN [10] [10] (tB (Dv.e2 gtD (Dv.e2 idxD (eVar 10) (eVar 7)) (Dv.e2 idxD (eVar 10) (eVar 8)))) (eVar 10))) (eL (eNL mkL eNil))))) (sApp 6 (eN mkT (eCons (eVar 7) (eCons (eVar 8) eNil)))) sNil) (a0 :: (some (.im (.int (w : Int)))) :: (some (.im (netD n))) :: a3 :: a4 :: (some (.im (.list (((Nt.plain w).map (Nt.run n)).map rowD)))) :: (some (.ml (F.map swD))) :: (some (.im (.int (a : Int)))) :: (some (.im (.int (j : Int)))) :: [none, none, none]) = some (.nx (a0 :: (some (.im (.int (w : Int)))) :: (some (.im (netD n))) :: a3 :: a4 :: (some (.im (.list (((Nt.plain w).map (Nt.run n)).map rowD)))) :: (some (.ml (F.map swD))) :: (some (.im (.int (a : Int)))) :: (some (.im (.int (j : Int)))) :: [none, none, none])) := by
        rw [sIf_ap, tst, Option.bind_some, if_neg c]
        rfl
      rw [z, Option.bind_some, loopD_nx]
      exact ih
theorem law_out {n : Nt.Net} {w : Nat} (a0 a3 a4 : Option W) (ok : Nt.Ok w n) (hw : w ≤ 8) : ∀ (m a : Nat) (F : Nt.Net) (x7 x8 : Option W), a + m = w → F.length + w * m ≤ 900 → ∃ y7 y8, forD (gN 7) (sFor (eNL rg1 (eCons (eVar 1) eNil)) (gN 8) (sIf (tAndD (tB (Dv.e2 neD (eVar 7) (eVar 8))) (tB (Dv.e2 eqD (eL (eLc (iSq (eVar 5)) splN [10] [10] (tB (Dv.e2 gtD (Dv.e2 idxD (eVar 10) (eVar 7)) (Dv.e2 idxD (eVar 10) (eVar 8)))) (eVar 10))) (eL (eNL mkL eNil))))) (sApp 6 (eN mkT (eCons (eVar 7) (eCons (eVar 8) eNil)))) sNil)) ((List.range' a m).map fun i => PyData.int ((i : Nat) : Int)) (a0 :: (some (.im (.int (w : Int)))) :: (some (.im (netD n))) :: a3 :: a4 :: (some (.im (.list (((Nt.plain w).map (Nt.run n)).map rowD)))) :: (some (.ml (F.map swD))) :: x7 :: x8 :: [none, none, none]) =
    some (.nx (a0 :: (some (.im (.int (w : Int)))) :: (some (.im (netD n))) :: a3 :: a4 :: (some (.im (.list (((Nt.plain w).map (Nt.run n)).map rowD)))) :: (some (.ml ((F ++ (List.range' a m).flatMap fun a => ((List.range' 0 w).filter (sureB n w a)).map fun b => (a, b)).map swD))) :: y7 :: y8 :: [none, none, none]))
  | 0, a, F, x7, x8, h, hF => ⟨x7, x8, by simp⟩
  | m + 1, a, F, x7, x8, h, hF => by
    rw [Nat.mul_succ] at hF
    obtain ⟨y8, e1⟩ := law_in (n := n) (w := w) (a := a) a0 a3 a4 ok (by omega) w 0 F x8 (by omega) (by omega)
    obtain ⟨y7, y8', ih⟩ := law_out a0 a3 a4 ok hw m (a + 1) (F ++ ((List.range' 0 w).filter (sureB n w a)).map fun b => (a, b)) (some (.im (.int (a : Int)))) y8 (by omega) (by
      rw [List.length_append, List.length_map]
      have := List.length_filter_le (sureB n w a) (List.range' 0 w)
      rw [List.length_range'] at this
      omega)
    refine ⟨y7, y8', ?_⟩
    rw [List.range'_succ, List.map_cons, forD_cons, gN_ap, Option.bind_some, List.flatMap_cons, ← List.append_assoc]
    simp only [List.set_cons_succ, List.set_cons_zero]
    have e2 : (sFor (eNL rg1 (eCons (eVar 1) eNil)) (gN 8) (sIf (tAndD (tB (Dv.e2 neD (eVar 7) (eVar 8))) (tB (Dv.e2 eqD (eL (eLc (iSq (eVar 5)) splN [10] [10] (tB (Dv.e2 gtD (Dv.e2 idxD (eVar 10) (eVar 7)) (Dv.e2 idxD (eVar 10) (eVar 8)))) (eVar 10))) (eL (eNL mkL eNil))))) (sApp 6 (eN mkT (eCons (eVar 7) (eCons (eVar 8) eNil)))) sNil)) (a0 :: (some (.im (.int (w : Int)))) :: (some (.im (netD n))) :: a3 :: a4 :: (some (.im (.list (((Nt.plain w).map (Nt.run n)).map rowD)))) :: (some (.ml (F.map swD))) :: (some (.im (.int (a : Int)))) :: x8 :: [none, none, none]) = some (.nx (a0 :: (some (.im (.int (w : Int)))) :: (some (.im (netD n))) :: a3 :: a4 :: (some (.im (.list (((Nt.plain w).map (Nt.run n)).map rowD)))) :: (some (.ml ((F ++ ((List.range' 0 w).filter (sureB n w a)).map fun b => (a, b)).map swD))) :: (some (.im (.int (a : Int)))) :: y8 :: [none, none, none])) := by
      rw [← e1, sFor_ap]
      simp only [eNL_ap, eCons_ap, eNil_ap, eVar_s, eVar_0, Option.bind_some, Option.map_some, rg_nat (show w ≤ 100 by omega)]
    rw [e2, Option.bind_some, loopD_nx]
    exact ih
theorem sure_mem {n : Nt.Net} {w : Nat} {p : Nt.Sw} (h : p ∈ sureT n w) : Nt.SwOk w p ∧ ∀ q ∈ Nt.plain w, (Nt.run n q).getD p.1 0 ≤ (Nt.run n q).getD p.2 0 := by
  unfold sureT at h
  obtain ⟨a, ha, h⟩ := List.mem_flatMap.mp h
  obtain ⟨b, hb, rfl⟩ := List.mem_map.mp h
  rw [List.mem_filter] at hb
  rw [List.mem_range'_1] at ha hb
  obtain ⟨hb, hs⟩ := hb
  unfold sureB at hs
  rw [Bool.and_eq_true, decide_eq_true_eq, List.all_eq_true] at hs
  exact ⟨⟨by omega, by omega, hs.1⟩, fun q hq => of_decide_eq_true (hs.2 _ (ssT_mem.mpr (List.mem_map_of_mem hq)))⟩
theorem law_true (ns : List Int) (hl : ns.length ≤ 63) : g_law [.list (ns.map PyData.int)] = some (.bool true) := by
  obtain ⟨m0, e0, _⟩ := mx ns 0
  obtain ⟨m1, e1, _⟩ := mx ns 1
  obtain ⟨m2, e2, _⟩ := mx ns 2
  obtain ⟨w, ew, w1, w8⟩ := wide_of m0 8 1
  obtain ⟨n, en, ok, ln⟩ := nx_ (x := m1) (w := w) 14 w1 (by omega)
  obtain ⟨r, er, lr⟩ := rx ns 10 w m2 (by omega)
  have g8 : (0 : Int) < 8 := by decide
  have ew' : (1 : Int) + (m0 : Int) % 8 = (w : Int) := ew
  have hw : w ≤ 8 := by omega
  have q2 := sp_law_run (n := n) (r := r) (by rw [lr]; exact ok)
  have hp := sp_law_plain_rows (w := w) (by omega)
  have hs := sp_sure w1 hw ok
  have z1 : (sAsg (Dv.e2 addD (eC (.int 1)) (Dv.e2 modD (eN g_law_mixed (eCons (eVar 0) (eCons (eC (.int 0)) eNil))) (eC (.int 8)))) (gN 1)) [some (.im (.list (ns.map PyData.int))), none, none, none, none, none, none, none, none, none, none, none] = some (.nx [some (.im (.list (ns.map PyData.int))), some (.im (.int (w : Int))), none, none, none, none, none, none, none, none, none, none]) := by
    simp only [sAsg_ap, Dv.e2_ap, eN_ap, eCons_ap, eNil_ap, eVar_0, eVar_s, eC_ap, Option.bind_some, Option.map_some, e0, modD_i g8, addD_i, ew', gN_ap, List.set_cons_succ, List.set_cons_zero]
  have z2 : (sAsg (eN g_law_net (eCons (eN g_law_mixed (eCons (eVar 0) (eCons (eC (.int 1)) eNil))) (eCons (eVar 1) (eCons (eC (.int 14)) eNil)))) (gN 2)) [some (.im (.list (ns.map PyData.int))), some (.im (.int (w : Int))), none, none, none, none, none, none, none, none, none, none] = some (.nx [some (.im (.list (ns.map PyData.int))), some (.im (.int (w : Int))), some (.im (netD n)), none, none, none, none, none, none, none, none, none]) := by
    simp only [sAsg_ap, eN_ap, eCons_ap, eNil_ap, eVar_0, eVar_s, eC_ap, Option.bind_some, Option.map_some, e1, en, gN_ap, List.set_cons_succ, List.set_cons_zero]
  have z3 : (sAsg (eN g_law_row (eCons (eVar 0) (eCons (eC (.int 10)) (eCons (eVar 1) (eCons (eN g_law_mixed (eCons (eVar 0) (eCons (eC (.int 2)) eNil))) eNil))))) (gN 3)) [some (.im (.list (ns.map PyData.int))), some (.im (.int (w : Int))), some (.im (netD n)), none, none, none, none, none, none, none, none, none] = some (.nx [some (.im (.list (ns.map PyData.int))), some (.im (.int (w : Int))), some (.im (netD n)), some (.im (rowD r)), none, none, none, none, none, none, none, none]) := by
    simp only [sAsg_ap, eN_ap, eCons_ap, eNil_ap, eVar_0, eVar_s, eC_ap, Option.bind_some, Option.map_some, e2, er, gN_ap, List.set_cons_succ, List.set_cons_zero]
  have z4 : (sAsg (eN g_law_run (eCons (eVar 2) (eCons (eVar 3) eNil))) (gN 4)) [some (.im (.list (ns.map PyData.int))), some (.im (.int (w : Int))), some (.im (netD n)), some (.im (rowD r)), none, none, none, none, none, none, none, none] = some (.nx [some (.im (.list (ns.map PyData.int))), some (.im (.int (w : Int))), some (.im (netD n)), some (.im (rowD r)), some (.im (rowD (Nt.run n r))), none, none, none, none, none, none, none]) := by
    simp only [sAsg_ap, eN_ap, eCons_ap, eNil_ap, eVar_0, eVar_s, eC_ap, Option.bind_some, Option.map_some, q2, gN_ap, List.set_cons_succ, List.set_cons_zero]
  have c5 : lcD splN [10] tYesD (eN g_law_run (eCons (eVar 2) (eCons (eVar 10) eNil))) [some (.im (.list (ns.map PyData.int))), some (.im (.int (w : Int))), some (.im (netD n)), some (.im (rowD r)), some (.im (rowD (Nt.run n r))), none, none, none, none, none, none, none] ((Nt.plain w).map rowD) = some (((Nt.plain w).map (Nt.run n)).map rowD) := by
    rw [lcD_mapN rowD (fun p => rowD (Nt.run n p))]
    · rw [List.map_map]; rfl
    · intro p hp
      have q := sp_law_run (n := n) (r := p) (by rw [(Nt.plain_mem.mp hp).1]; exact ok)
      simp only [eN_ap, eCons_ap, eNil_ap, eVar_0, eVar_s, List.set_cons_succ, List.set_cons_zero, Option.bind_some, Option.map_some, q]
  have z5 : (sAsg (eL (eLc (iSq (eN g_law_plain_rows (eCons (eVar 1) eNil))) splN [10] [10] tYesD (eN g_law_run (eCons (eVar 2) (eCons (eVar 10) eNil))))) (gN 5)) [some (.im (.list (ns.map PyData.int))), some (.im (.int (w : Int))), some (.im (netD n)), some (.im (rowD r)), some (.im (rowD (Nt.run n r))), none, none, none, none, none, none, none] = some (.nx [some (.im (.list (ns.map PyData.int))), some (.im (.int (w : Int))), some (.im (netD n)), some (.im (rowD r)), some (.im (rowD (Nt.run n r))), some (.im (.list (((Nt.plain w).map (Nt.run n)).map rowD))), none, none, none, none, none, none]) := by
    simp only [sAsg_ap, eL_ap, eLc_ap, iSq_ap, eN_ap, eCons_ap, eNil_ap, eVar_0, eVar_s, Option.bind_some, Option.map_some, hp, asSeq_l, wipeE_c, wipeE_0, List.set_cons_succ, List.set_cons_zero]
    rw [c5]
    simp only [Option.map_some, Option.bind_some, gN_ap, List.set_cons_succ, List.set_cons_zero]
  have z6 : (sAsgL 6 (eNL mkL eNil)) [some (.im (.list (ns.map PyData.int))), some (.im (.int (w : Int))), some (.im (netD n)), some (.im (rowD r)), some (.im (rowD (Nt.run n r))), some (.im (.list (((Nt.plain w).map (Nt.run n)).map rowD))), none, none, none, none, none, none] = some (.nx [some (.im (.list (ns.map PyData.int))), some (.im (.int (w : Int))), some (.im (netD n)), some (.im (rowD r)), some (.im (rowD (Nt.run n r))), some (.im (.list (((Nt.plain w).map (Nt.run n)).map rowD))), some (.ml (([] : Nt.Net).map swD)), none, none, none, none, none]) := by
    simp only [sAsgL_ap, eNL_ap, eNil_ap, Option.bind_some, mkL_0, Option.map_some, List.set_cons_succ, List.set_cons_zero]
    rfl
  obtain ⟨y7, y8, e7⟩ := law_out (n := n) (w := w) (some (.im (.list (ns.map PyData.int)))) (some (.im (rowD r))) (some (.im (rowD (Nt.run n r)))) ok hw w 0 [] none none (by omega) (by
    have : w * w ≤ 8 * 8 := Nat.mul_le_mul hw hw
    rw [List.length_nil]
    omega)
  rw [List.nil_append] at e7
  have z7 : (sFor (eNL rg1 (eCons (eVar 1) eNil)) (gN 7) (sFor (eNL rg1 (eCons (eVar 1) eNil)) (gN 8) (sIf (tAndD (tB (Dv.e2 neD (eVar 7) (eVar 8))) (tB (Dv.e2 eqD (eL (eLc (iSq (eVar 5)) splN [10] [10] (tB (Dv.e2 gtD (Dv.e2 idxD (eVar 10) (eVar 7)) (Dv.e2 idxD (eVar 10) (eVar 8)))) (eVar 10))) (eL (eNL mkL eNil))))) (sApp 6 (eN mkT (eCons (eVar 7) (eCons (eVar 8) eNil)))) sNil))) [some (.im (.list (ns.map PyData.int))), some (.im (.int (w : Int))), some (.im (netD n)), some (.im (rowD r)), some (.im (rowD (Nt.run n r))), some (.im (.list (((Nt.plain w).map (Nt.run n)).map rowD))), some (.ml (([] : Nt.Net).map swD)), none, none, none, none, none] = some (.nx ((some (.im (.list (ns.map PyData.int)))) :: (some (.im (.int (w : Int)))) :: (some (.im (netD n))) :: (some (.im (rowD r))) :: (some (.im (rowD (Nt.run n r)))) :: (some (.im (.list (((Nt.plain w).map (Nt.run n)).map rowD)))) :: (some (.ml ((sureT n w).map swD))) :: y7 :: y8 :: [none, none, none])) := by
    rw [sFor_ap]
    simp only [eNL_ap, eCons_ap, eNil_ap, eVar_s, eVar_0, Option.bind_some, Option.map_some, rg_nat (show w ≤ 100 by omega)]
    exact e7
  have z8 : (sAsg (eN g_sure (eCons (eVar 2) (eCons (eVar 1) eNil))) (gN 9)) ((some (.im (.list (ns.map PyData.int)))) :: (some (.im (.int (w : Int)))) :: (some (.im (netD n))) :: (some (.im (rowD r))) :: (some (.im (rowD (Nt.run n r)))) :: (some (.im (.list (((Nt.plain w).map (Nt.run n)).map rowD)))) :: (some (.ml ((sureT n w).map swD))) :: y7 :: y8 :: [none, none, none]) = some (.nx ((some (.im (.list (ns.map PyData.int)))) :: (some (.im (.int (w : Int)))) :: (some (.im (netD n))) :: (some (.im (rowD r))) :: (some (.im (rowD (Nt.run n r)))) :: (some (.im (.list (((Nt.plain w).map (Nt.run n)).map rowD)))) :: (some (.ml ((sureT n w).map swD))) :: y7 :: y8 :: [some (.im (netD (sureT n w))), none, none])) := by
    simp only [sAsg_ap, eN_ap, eCons_ap, eNil_ap, eVar_0, eVar_s, Option.bind_some, Option.map_some, hs, gN_ap, List.set_cons_succ, List.set_cons_zero]
  have nil0 : neD (.list []) (.list []) = some (.bool false) := neD_nil (n := 0) (ds := []) (by simp)
  have nil1 : eqD (.list []) (.list []) = some (.bool true) := by
    rw [eqD_nil (n := 0) (by simp)]
    rfl
  have c9 : lcD splN [11] (tNotD (tB (eN g_law_is_swap (eCons (eVar 11) (eCons (eVar 1) eNil))))) (eVar 11) ((some (.im (.list (ns.map PyData.int)))) :: (some (.im (.int (w : Int)))) :: (some (.im (netD n))) :: (some (.im (rowD r))) :: (some (.im (rowD (Nt.run n r)))) :: (some (.im (.list (((Nt.plain w).map (Nt.run n)).map rowD)))) :: (some (.ml ((sureT n w).map swD))) :: y7 :: y8 :: [some (.im (netD (sureT n w))), none, none]) ((sureT n w).map swD) = some [] := by
    rw [lcD_filN swD (fun _ => false) swD]
    · rw [List.filter_eq_nil_iff.mpr (by simp)]
      rfl
    · intro p hp
      have h := sp_is_swap (sure_mem hp).1
      simp only [List.set_cons_succ, List.set_cons_zero, tNotD_ap, tB_ap, eN_ap, eCons_ap, eNil_ap, eVar_0, eVar_s, Option.bind_some, Option.map_some, h, asB_b, Bool.not_true]
      exact ⟨trivial, fun _ => trivial⟩
  have z9 : (sIf (tOrD (tB (Dv.e2 neD (eVar 9) (eTupM 6))) (tB (Dv.e2 neD (eL (eLc (iSq (eVar 9)) splN [11] [11] (tNotD (tB (eN g_law_is_swap (eCons (eVar 11) (eCons (eVar 1) eNil))))) (eVar 11))) (eL (eNL mkL eNil))))) (sRet (eC (.bool false))) sNil) ((some (.im (.list (ns.map PyData.int)))) :: (some (.im (.int (w : Int)))) :: (some (.im (netD n))) :: (some (.im (rowD r))) :: (some (.im (rowD (Nt.run n r)))) :: (some (.im (.list (((Nt.plain w).map (Nt.run n)).map rowD)))) :: (some (.ml ((sureT n w).map swD))) :: y7 :: y8 :: [some (.im (netD (sureT n w))), none, none]) = some (.nx ((some (.im (.list (ns.map PyData.int)))) :: (some (.im (.int (w : Int)))) :: (some (.im (netD n))) :: (some (.im (rowD r))) :: (some (.im (rowD (Nt.run n r)))) :: (some (.im (.list (((Nt.plain w).map (Nt.run n)).map rowD)))) :: (some (.ml ((sureT n w).map swD))) :: y7 :: y8 :: [some (.im (netD (sureT n w))), none, none])) := by
    have ne : neD (netD (sureT n w)) (.tuple ((sureT n w).map swD)) = some (.bool false) := neD_net (sureT n w)
    have sq : asSeq (netD (sureT n w)) = some ((sureT n w).map swD) := rfl
    simp only [sIf_ap, tOrD_ap, tB_ap, Dv.e2_ap, eTupM_s, eTupM_0, eL_ap, eLc_ap, eNL_ap, eNil_ap, iSq_ap, eVar_0, eVar_s, Option.bind_some, Option.map_some, ne, asB_b, Bool.false_eq_true, if_false, sq, wipeE_c, wipeE_0, List.set_cons_succ, List.set_cons_zero, mkL_0]
    rw [c9]
    simp only [Option.bind_some, Option.map_some, nil0, asB_b, Bool.false_eq_true, if_false, sNil_ap]
  have c10 : lcD splN [11] (tB (Dv.e2 gtD (Dv.e2 idxD (eVar 4) (Dv.e2 idxD (eVar 11) (eC (.int 0)))) (Dv.e2 idxD (eVar 4) (Dv.e2 idxD (eVar 11) (eC (.int 1)))))) (eVar 11) ((some (.im (.list (ns.map PyData.int)))) :: (some (.im (.int (w : Int)))) :: (some (.im (netD n))) :: (some (.im (rowD r))) :: (some (.im (rowD (Nt.run n r)))) :: (some (.im (.list (((Nt.plain w).map (Nt.run n)).map rowD)))) :: (some (.ml ((sureT n w).map swD))) :: y7 :: y8 :: [some (.im (netD (sureT n w))), none, none]) ((sureT n w).map swD) = some [] := by
    rw [lcD_filN swD (fun _ => false) swD]
    · rw [List.filter_eq_nil_iff.mpr (by simp)]
      rfl
    · intro p hp
      obtain ⟨⟨h1, h2, h3⟩, h4⟩ := sure_mem hp
      have a1 := at_row (r := Nt.run n r) (k := p.1) (by rw [Nt.run_len, lr]; exact h1)
      have a2 := at_row (r := Nt.run n r) (k := p.2) (by rw [Nt.run_len, lr]; exact h2)
      have p0 : atI [PyData.int (p.1 : Int), .int (p.2 : Int)] 0 = some (.int (p.1 : Int)) := rfl
      have p1 : atI [PyData.int (p.1 : Int), .int (p.2 : Int)] 1 = some (.int (p.2 : Int)) := rfl
      have le := Nt.zero_one_pair ok h4 h1 h2 lr
      have gt : gtD (.int ((Nt.run n r).getD p.1 0)) (.int ((Nt.run n r).getD p.2 0)) = some (.bool false) := by
        rw [gtD_i, decide_eq_false (by omega)]
      simp only [swD, rowD, List.set_cons_succ, List.set_cons_zero, tB_ap, Dv.e2_ap, eC_ap, eVar_0, eVar_s, Option.bind_some, Option.map_some, idxD_t, p0, p1, a1, a2, gt, asB_b]
      exact ⟨trivial, fun _ => trivial⟩
  have z10 : (sRet (Dv.e2 eqD (eL (eLc (iSq (eVar 9)) splN [11] [11] (tB (Dv.e2 gtD (Dv.e2 idxD (eVar 4) (Dv.e2 idxD (eVar 11) (eC (.int 0)))) (Dv.e2 idxD (eVar 4) (Dv.e2 idxD (eVar 11) (eC (.int 1)))))) (eVar 11))) (eL (eNL mkL eNil)))) ((some (.im (.list (ns.map PyData.int)))) :: (some (.im (.int (w : Int)))) :: (some (.im (netD n))) :: (some (.im (rowD r))) :: (some (.im (rowD (Nt.run n r)))) :: (some (.im (.list (((Nt.plain w).map (Nt.run n)).map rowD)))) :: (some (.ml ((sureT n w).map swD))) :: y7 :: y8 :: [some (.im (netD (sureT n w))), none, none]) = some (.rt (.bool true)) := by
    have sq : asSeq (netD (sureT n w)) = some ((sureT n w).map swD) := rfl
    rw [sRet_ap, Dv.e2_ap, eL_ap, eLc_ap]
    simp only [eL_ap, eNL_ap, eNil_ap, iSq_ap, eVar_0, eVar_s, Option.bind_some, sq, wipeE_c, wipeE_0, List.set_cons_succ, List.set_cons_zero]
    rw [c10]
    simp only [Option.bind_some, Option.map_some, mkL_0, nil1]
  unfold g_law
  rw [fnD_ap (by rfl)]
  unfold b_law
  simp only [List.map_cons, List.map_nil, List.replicate, List.cons_append, List.nil_append]
  rw [sSeq_ap, z1, Option.bind_some, thenD_nx, sSeq_ap, z2, Option.bind_some, thenD_nx, sSeq_ap, z3, Option.bind_some, thenD_nx, sSeq_ap, z4, Option.bind_some, thenD_nx, sSeq_ap, z5, Option.bind_some, thenD_nx, sSeq_ap, z6, Option.bind_some, thenD_nx, sSeq_ap, z7, Option.bind_some, thenD_nx, sSeq_ap, z8, Option.bind_some, thenD_nx, sSeq_ap, z9, Option.bind_some, thenD_nx, z10, outD_rt]

def topS (i : Nat) : Stmt := PySem.Challenge.pw_swapyard_k22_whole_sure.main.body.getD i (.Pass ⟨0, 0, 0, 0⟩)
abbrev s_swapped : Stmt := topS 1
theorem sc_swapped : FnScope ["row", "one", "other", "found"] ["row", "one", "other"] (defScope s_swapped) := ⟨rfl, rfl, rfl, by decide +kernel, rfl, by decide +kernel, by decide +kernel⟩
abbrev s_run : Stmt := topS 2
theorem sc_run : FnScope ["net", "row", "one", "other"] ["net", "row"] (defScope s_run) := ⟨rfl, rfl, rfl, by decide +kernel, rfl, by decide +kernel, by decide +kernel⟩
abbrev s_plain_rows : Stmt := topS 3
theorem sc_plain_rows : FnScope ["wide", "found", "line", "row"] ["wide"] (defScope s_plain_rows) := ⟨rfl, rfl, rfl, by decide +kernel, rfl, by decide +kernel, by decide +kernel⟩
abbrev s_outcomes : Stmt := topS 4
theorem sc_outcomes : FnScope ["net", "wide", "row"] ["net", "wide"] (defScope s_outcomes) := ⟨rfl, rfl, rfl, by decide +kernel, rfl, by decide +kernel, by decide +kernel⟩
abbrev s_sure : Stmt := topS 6
theorem sc_sure : FnScope ["net", "wide", "rows", "found", "one", "other", "row"] ["net", "wide"] (defScope s_sure) := ⟨rfl, rfl, rfl, by decide +kernel, rfl, by decide +kernel, by decide +kernel⟩
abbrev s_law_cell_at : Stmt := topS 8
theorem sc_law_cell_at : FnScope ["_law_script", "_law_k"] ["_law_script", "_law_k"] (defScope s_law_cell_at) := ⟨rfl, rfl, rfl, by decide +kernel, rfl, by decide +kernel, by decide +kernel⟩
abbrev s_law_mixed : Stmt := topS 9
theorem sc_law_mixed : FnScope ["_law_script", "_law_k", "_law_drawn_here"] ["_law_script", "_law_k"] (defScope s_law_mixed) := ⟨rfl, rfl, rfl, by decide +kernel, rfl, by decide +kernel, by decide +kernel⟩
abbrev s_law_drawn : Stmt := topS 10
theorem sc_law_drawn : FnScope ["_law_number", "_law_k", "_law_drawn_here"] ["_law_number", "_law_k"] (defScope s_law_drawn) := ⟨rfl, rfl, rfl, by decide +kernel, rfl, by decide +kernel, by decide +kernel⟩
abbrev s_law_swap : Stmt := topS 11
theorem sc_law_swap : FnScope ["_law_number", "_law_wide", "_law_one"] ["_law_number", "_law_wide"] (defScope s_law_swap) := ⟨rfl, rfl, rfl, by decide +kernel, rfl, by decide +kernel, by decide +kernel⟩
abbrev s_law_bubble : Stmt := topS 12
theorem sc_law_bubble : FnScope ["_law_wide", "_law_found", "_law_k", "_law_line"] ["_law_wide"] (defScope s_law_bubble) := ⟨rfl, rfl, rfl, by decide +kernel, rfl, by decide +kernel, by decide +kernel⟩
abbrev s_law_net : Stmt := topS 13
theorem sc_law_net : FnScope ["_law_number", "_law_wide", "_law_most", "_law_kind", "_law_some", "_law_at", "_law_k", "_law_one", "_law_other"] ["_law_number", "_law_wide", "_law_most"] (defScope s_law_net) := ⟨rfl, rfl, rfl, by decide +kernel, rfl, by decide +kernel, by decide +kernel⟩
abbrev s_law_run : Stmt := topS 14
theorem sc_law_run : FnScope ["_law_net_here", "_law_row_here", "_law_found", "_law_one", "_law_other", "_law_low"] ["_law_net_here", "_law_row_here"] (defScope s_law_run) := ⟨rfl, rfl, rfl, by decide +kernel, rfl, by decide +kernel, by decide +kernel⟩
abbrev s_law_in_order : Stmt := topS 15
theorem sc_law_in_order : FnScope ["_law_row_here", "_law_k"] ["_law_row_here"] (defScope s_law_in_order) := ⟨rfl, rfl, rfl, by decide +kernel, rfl, by decide +kernel, by decide +kernel⟩
abbrev s_law_row : Stmt := topS 16
theorem sc_law_row : FnScope ["_law_script", "_law_at", "_law_wide", "_law_number", "_law_found", "_law_k", "_law_part"] ["_law_script", "_law_at", "_law_wide", "_law_number"] (defScope s_law_row) := ⟨rfl, rfl, rfl, by decide +kernel, rfl, by decide +kernel, by decide +kernel⟩
abbrev s_law_plain_rows : Stmt := topS 17
theorem sc_law_plain_rows : FnScope ["_law_wide", "_law_found", "_law_line", "_law_row_here"] ["_law_wide"] (defScope s_law_plain_rows) := ⟨rfl, rfl, rfl, by decide +kernel, rfl, by decide +kernel, by decide +kernel⟩
abbrev s_law_whole : Stmt := topS 18
theorem sc_law_whole : FnScope ["_law_thing"] ["_law_thing"] (defScope s_law_whole) := ⟨rfl, rfl, rfl, by decide +kernel, rfl, by decide +kernel, by decide +kernel⟩
abbrev s_law_is_swap : Stmt := topS 19
theorem sc_law_is_swap : FnScope ["_law_thing", "_law_wide"] ["_law_thing", "_law_wide"] (defScope s_law_is_swap) := ⟨rfl, rfl, rfl, by decide +kernel, rfl, by decide +kernel, by decide +kernel⟩
abbrev s_law_is_net : Stmt := topS 20
theorem sc_law_is_net : FnScope ["_law_thing", "_law_wide", "_law_part"] ["_law_thing", "_law_wide"] (defScope s_law_is_net) := ⟨rfl, rfl, rfl, by decide +kernel, rfl, by decide +kernel, by decide +kernel⟩
abbrev s_law_is_row : Stmt := topS 21
theorem sc_law_is_row : FnScope ["_law_thing", "_law_wide", "_law_part"] ["_law_thing", "_law_wide"] (defScope s_law_is_row) := ⟨rfl, rfl, rfl, by decide +kernel, rfl, by decide +kernel, by decide +kernel⟩
abbrev s_law : Stmt := topS 22
theorem sc_law : FnScope ["_law_script", "_law_wide", "_law_net_here", "_law_row_here", "_law_out", "_law_rows", "_law_due", "_law_one", "_law_other", "_law_found", "_law_each", "_law_pair"] ["_law_script"] (defScope s_law) := ⟨rfl, rfl, rfl, by decide +kernel, rfl, by decide +kernel, by decide +kernel⟩
structure Txt (mg : Str → Option Value) : Prop where
  b_all : mg "all" = none
  b_bool : mg "bool" = none
  b_int : mg "int" = none
  b_isinstance : mg "isinstance" = none
  b_len : mg "len" = none
  b_list : mg "list" = none
  b_max : mg "max" = none
  b_min : mg "min" = none
  b_range : mg "range" = none
  b_set : mg "set" = none
  b_sorted : mg "sorted" = none
  b_tuple : mg "tuple" = none
section
variable {P : Program} {w : World} {K : PySem.W.Frag} {mg : Str → Option Value} {base : Heap} {f : Addr} {fd : FuncData}
theorem c_swapped (T : Txt mg) (F : Fun K "swapped" "swapped" s_swapped f fd) (hm : mg "swapped" = some (.ref f)) (b : Binds K fd ["row", "one", "other"] [])  : CalD P w K mg base 1 "swapped" 3 g_swapped :=
  cal_mk 3 1 F hm b sc_swapped rfl rfl fun cdv A outer s H E hr => by
    have hu := hr.units
    exact (dss_cons (ds_setL 3 sc_swapped.nd (dl_callTy call_list_of v_list (by rfl) T.b_list boot_list (da_cons (de_var 0) da_nil)))
  (dss_cons (ds_asg (de_callB (call_min2 (by rfl)) v_min2 (by rfl) T.b_min (by decide +kernel) (da_cons (de_ix (de_var 0) (de_var 1)) (da_cons (de_ix (de_var 0) (de_var 2)) da_nil))) (dg_sub 3 (de_var 1)))
  (dss_cons (ds_asg (de_callB (call_max2 (by rfl)) v_max2 (by rfl) T.b_max (by decide +kernel) (da_cons (de_ix (de_var 0) (de_var 1)) (da_cons (de_ix (de_var 0) (de_var 2)) da_nil))) (dg_sub 3 (de_var 2)))
  (dss_one (ds_ret (de_tupM 3 (by rfl) T.b_tuple))))))
theorem c_run (T : Txt mg) (F : Fun K "run" "run" s_run f fd) (hm : mg "run" = some (.ref f)) (b : Binds K fd ["net", "row"] []) (c_swapped : CalD P w K mg base 1 "swapped" 3 g_swapped) : CalD P w K mg base 2 "run" 2 g_run :=
  cal_mk 2 2 F hm b sc_run rfl rfl fun cdv A outer s H E hr => by
    have hu := hr.units
    exact (dss_cons (ds_for PassesOwn.never (by rfl) (di_seq (de_var 0)) (dg_tup (by rfl) (dgs_cons (dg_name 2 sc_run.nd) (dgs_cons (dg_name 3 sc_run.nd) dgs_nil))) (dss_one (ds_set 1 sc_run.nd (de_fn c_swapped hr (by decide) (by rfl) (da_cons (de_var 1) (da_cons (de_var 2) (da_cons (de_var 3) da_nil))) (len_cons (len_cons (len_cons len_nil)))))))
  (dss_one (ds_ret (de_var 1))))
theorem c_plain_rows (T : Txt mg) (F : Fun K "plain_rows" "plain_rows" s_plain_rows f fd) (hm : mg "plain_rows" = some (.ref f)) (b : Binds K fd ["wide"] [])  : CalD P w K mg base 1 "plain_rows" 1 g_plain_rows :=
  cal_mk 1 3 F hm b sc_plain_rows rfl rfl fun cdv A outer s H E hr => by
    have hu := hr.units
    exact (dss_cons (ds_set 1 sc_plain_rows.nd ((dl_lst (da_cons (de_tup da_nil) da_nil))).de)
  (dss_cons (ds_for PassesOwn.never (by rfl) (di_range1 (da_cons (de_var 0) da_nil) (by rfl) T.b_range) (dg_name 2 sc_plain_rows.nd) (dss_one (ds_set 1 sc_plain_rows.nd (de_op op_addA v_add ((dl_lc (by rfl) sc_plain_rows.nd (di_seq (de_var 1)) (blkOk_by (own := [("row", 3)]) (by kernel_rfl)) (fun _ _ _ _ _ => (dgc_name 3 sc_plain_rows.nd)) (fun _ _ _ _ _ => dts_nil) (fun _ _ _ _ _ => (de_op op_addA v_add (de_var 3) (de_tup (da_cons de_int da_nil)))))).de ((dl_lc (by rfl) sc_plain_rows.nd (di_seq (de_var 1)) (blkOk_by (own := [("row", 3)]) (by kernel_rfl)) (fun _ _ _ _ _ => (dgc_name 3 sc_plain_rows.nd)) (fun _ _ _ _ _ => dts_nil) (fun _ _ _ _ _ => (de_op op_addA v_add (de_var 3) (de_tup (da_cons de_int da_nil)))))).de))))
  (dss_one (ds_ret (de_var 1)))))
theorem c_outcomes (T : Txt mg) (F : Fun K "outcomes" "outcomes" s_outcomes f fd) (hm : mg "outcomes" = some (.ref f)) (b : Binds K fd ["net", "wide"] []) (c_run : CalD P w K mg base 2 "run" 2 g_run) (c_plain_rows : CalD P w K mg base 1 "plain_rows" 1 g_plain_rows) : CalD P w K mg base 3 "outcomes" 2 g_outcomes :=
  cal_mk 2 1 F hm b sc_outcomes rfl rfl fun cdv A outer s H E hr => by
    have hu := hr.units
    exact (dss_one (ds_ret (de_callTy call_tuple_of v_tup (by rfl) T.b_tuple boot_tuple (da_cons ((dl_sortSetB (by rfl) (by rfl) T.b_sorted (by rfl) T.b_set hu ((dl_lc (by rfl) sc_outcomes.nd (di_seq (de_fn c_plain_rows hr (by decide) (by rfl) (da_cons (de_var 1) da_nil) (len_cons len_nil))) (blkOk_by (own := [("row", 2)]) (by kernel_rfl)) (fun _ _ _ _ _ => (dgc_name 2 sc_outcomes.nd)) (fun _ _ _ _ _ => dts_nil) (fun _ _ _ _ _ => (de_fn c_run hr (by decide) (by rfl) (da_cons (de_var 0) (da_cons (de_var 2) da_nil)) (len_cons (len_cons len_nil)))))).de)).de da_nil))))
theorem c_sure (T : Txt mg) (F : Fun K "sure" "sure" s_sure f fd) (hm : mg "sure" = some (.ref f)) (b : Binds K fd ["net", "wide"] []) (c_outcomes : CalD P w K mg base 3 "outcomes" 2 g_outcomes) : CalD P w K mg base 4 "sure" 2 g_sure :=
  cal_mk 2 5 F hm b sc_sure rfl rfl fun cdv A outer s H E hr => by
    have hu := hr.units
    exact (dss_cons (ds_set 2 sc_sure.nd (de_fn c_outcomes hr (by decide) (by rfl) (da_cons (de_var 0) (da_cons (de_var 1) da_nil)) (len_cons (len_cons len_nil))))
  (dss_cons (ds_setL 3 sc_sure.nd (dl_lst da_nil))
  (dss_cons (ds_for PassesOwn.never (by rfl) (di_range1 (da_cons (de_var 1) da_nil) (by rfl) T.b_range) (dg_name 4 sc_sure.nd) (dss_one (ds_for PassesOwn.never (by rfl) (di_range1 (da_cons (de_var 1) da_nil) (by rfl) T.b_range) (dg_name 5 sc_sure.nd) (dss_one (ds_if ((dw_and (dt_cmp (op_neD hu) v_ne (de_var 4) (de_var 5) (nomark _)) (dw_and1 (dt_val (de_callB (cr_all (by rfl)) v_all (by rfl) T.b_all (by decide +kernel) (da_cons ((dl_lc (by rfl) sc_sure.nd (di_seq (de_var 2)) (blkOk_by (own := [("row", 6)]) (by kernel_rfl)) (fun _ _ _ _ _ => (dgc_name 6 sc_sure.nd)) (fun _ _ _ _ _ => dts_nil) (fun _ _ _ _ _ => (de_cmp op_le v_le (de_ix (de_var 6) (de_var 4)) (de_ix (de_var 6) (de_var 5)) (nomark _))))).de da_nil)))))).dt (dss_one (ds_app 3 (de_tup (da_cons (de_var 4) (da_cons (de_var 5) da_nil))))) dss_nil)))))
  (dss_one (ds_ret (de_tupM 3 (by rfl) T.b_tuple))))))
theorem c_law_cell_at (T : Txt mg) (F : Fun K "_law_cell_at" "_law_cell_at" s_law_cell_at f fd) (hm : mg "_law_cell_at" = some (.ref f)) (b : Binds K fd ["_law_script", "_law_k"] [])  : CalD P w K mg base 1 "_law_cell_at" 2 g_law_cell_at :=
  cal_mk 2 0 F hm b sc_law_cell_at rfl rfl fun cdv A outer s H E hr => by
    have hu := hr.units
    exact (dss_cons (ds_if (dt_cmp op_lt v_lt (de_var 1) (de_callB call_len v_len (by rfl) T.b_len PySem.boot_len (da_cons (de_var 0) da_nil)) (nomark _)) (dss_one (ds_ret (de_ix (de_var 0) (de_var 1)))) dss_nil)
  (dss_one (ds_ret de_int)))
theorem c_law_mixed (T : Txt mg) (F : Fun K "_law_mixed" "_law_mixed" s_law_mixed f fd) (hm : mg "_law_mixed" = some (.ref f)) (b : Binds K fd ["_law_script", "_law_k"] []) (c_law_cell_at : CalD P w K mg base 1 "_law_cell_at" 2 g_law_cell_at) : CalD P w K mg base 2 "_law_mixed" 2 g_law_mixed :=
  cal_mk 2 1 F hm b sc_law_mixed rfl rfl fun cdv A outer s H E hr => by
    have hu := hr.units
    exact (dss_cons (ds_set 2 sc_law_mixed.nd (de_op op_mod v_mod (de_op op_mulA v_mul (de_op op_addA v_add (de_op op_addA v_add (de_fn c_law_cell_at hr (by decide) (by rfl) (da_cons (de_var 0) (da_cons (de_var 1) da_nil)) (len_cons (len_cons len_nil))) (de_op op_mulA v_mul de_int (de_var 1))) de_int) de_int) de_int))
  (dss_one (ds_ret (de_op op_mod v_mod (de_op op_addA v_add (de_op op_addA v_add (de_op op_mulA v_mul (de_var 2) (de_var 2)) (de_op op_mulA v_mul de_int (de_var 2))) (de_var 1)) de_int))))
theorem c_law_drawn (T : Txt mg) (F : Fun K "_law_drawn" "_law_drawn" s_law_drawn f fd) (hm : mg "_law_drawn" = some (.ref f)) (b : Binds K fd ["_law_number", "_law_k"] [])  : CalD P w K mg base 1 "_law_drawn" 2 g_law_drawn :=
  cal_mk 2 1 F hm b sc_law_drawn rfl rfl fun cdv A outer s H E hr => by
    have hu := hr.units
    exact (dss_cons (ds_set 2 sc_law_drawn.nd (de_op op_mod v_mod (de_op op_mulA v_mul (de_op op_addA v_add (de_op op_addA v_add (de_var 0) (de_op op_mulA v_mul de_int (de_var 1))) de_int) de_int) de_int))
  (dss_one (ds_ret (de_op op_mod v_mod (de_op op_addA v_add (de_op op_addA v_add (de_op op_mulA v_mul (de_var 2) (de_var 2)) (de_op op_mulA v_mul de_int (de_var 2))) (de_var 1)) de_int))))
theorem c_law_swap (T : Txt mg) (F : Fun K "_law_swap" "_law_swap" s_law_swap f fd) (hm : mg "_law_swap" = some (.ref f)) (b : Binds K fd ["_law_number", "_law_wide"] [])  : CalD P w K mg base 1 "_law_swap" 2 g_law_swap :=
  cal_mk 2 1 F hm b sc_law_swap rfl rfl fun cdv A outer s H E hr => by
    have hu := hr.units
    exact (dss_cons (ds_set 2 sc_law_swap.nd (de_op op_mod v_mod (de_var 0) (de_var 1)))
  (dss_one (ds_ret (de_tup (da_cons (de_var 2) (da_cons (de_op op_mod v_mod (de_op op_addA v_add (de_op op_addA v_add (de_var 2) de_int) (de_op op_mod v_mod (de_op op_fdiv v_fdiv (de_var 0) de_int) (de_op op_sub v_sub (de_var 1) de_int))) (de_var 1)) da_nil))))))
theorem c_law_bubble (T : Txt mg) (F : Fun K "_law_bubble" "_law_bubble" s_law_bubble f fd) (hm : mg "_law_bubble" = some (.ref f)) (b : Binds K fd ["_law_wide"] [])  : CalD P w K mg base 1 "_law_bubble" 1 g_law_bubble :=
  cal_mk 1 3 F hm b sc_law_bubble rfl rfl fun cdv A outer s H E hr => by
    have hu := hr.units
    exact (dss_cons (ds_set 1 sc_law_bubble.nd ((dl_lst da_nil)).de)
  (dss_cons (ds_for PassesOwn.never (by rfl) (di_range1 (da_cons (de_var 0) da_nil) (by rfl) T.b_range) (dg_name 2 sc_law_bubble.nd) (dss_one (ds_set 1 sc_law_bubble.nd (de_op op_addA v_add (de_var 1) ((dl_lc (by rfl) sc_law_bubble.nd (di_range1 (da_cons (de_op op_sub v_sub (de_op op_sub v_sub (de_var 0) de_int) (de_var 2)) da_nil) (by rfl) T.b_range) (blkOk_by (own := [("_law_line", 3)]) (by kernel_rfl)) (fun _ _ _ _ _ => (dgc_name 3 sc_law_bubble.nd)) (fun _ _ _ _ _ => dts_nil) (fun _ _ _ _ _ => (de_tup (da_cons (de_var 3) (da_cons (de_op op_addA v_add (de_var 3) de_int) da_nil)))))).de))))
  (dss_one (ds_ret (de_var 1)))))
theorem c_law_net (T : Txt mg) (F : Fun K "_law_net" "_law_net" s_law_net f fd) (hm : mg "_law_net" = some (.ref f)) (b : Binds K fd ["_law_number", "_law_wide", "_law_most"] []) (c_law_swap : CalD P w K mg base 1 "_law_swap" 2 g_law_swap) (c_law_drawn : CalD P w K mg base 1 "_law_drawn" 2 g_law_drawn) (c_law_bubble : CalD P w K mg base 1 "_law_bubble" 1 g_law_bubble) : CalD P w K mg base 2 "_law_net" 3 g_law_net :=
  cal_mk 3 6 F hm b sc_law_net rfl rfl fun cdv A outer s H E hr => by
    have hu := hr.units
    exact (dss_cons (ds_if (dt_cmp (op_eqD hu) v_eq (de_var 1) de_int (nomark _)) (dss_one (ds_ret (de_tup da_nil))) dss_nil)
  (dss_cons (ds_set 3 sc_law_net.nd (de_op op_mod v_mod (de_op op_fdiv v_fdiv (de_var 0) de_int) de_int))
  (dss_cons (ds_setLc 4 (by rfl) sc_law_net.nd (di_range1 (da_cons (de_op op_mod v_mod (de_var 0) (de_op op_addA v_add (de_var 2) de_int)) da_nil) (by rfl) T.b_range) (blkOk_by (own := [("_law_k", 6)]) (by kernel_rfl)) (fun _ _ _ _ _ => (dgc_name 6 sc_law_net.nd)) (fun _ _ _ _ _ => dts_nil) (fun _ _ _ _ _ => (de_fn c_law_swap hr (by decide) (by rfl) (da_cons (de_fn c_law_drawn hr (by decide) (by rfl) (da_cons (de_var 0) (da_cons (de_var 6) da_nil)) (len_cons (len_cons len_nil))) (da_cons (de_var 1) da_nil)) (len_cons (len_cons len_nil)))) (sw_true (by rfl) (by rfl) (by rfl) (by decide +kernel)))
  (dss_cons (ds_if (dt_cmp (op_eqD hu) v_eq (de_var 3) de_int (nomark _)) (dss_one (ds_setLc 4 (by rfl) sc_law_net.nd (di_seq (de_var 4)) (blkOk_by (own := [("_law_one", 7), ("_law_other", 8)]) (by kernel_rfl)) (fun _ _ _ _ _ => (dgc_tup (by rfl) (dgcs_cons 7 sc_law_net.nd (dgcs_cons 8 sc_law_net.nd dgcs_nil)))) (fun _ _ _ _ _ => dts_nil) (fun _ _ _ _ _ => (de_tup (da_cons (de_callB (call_min2 (by rfl)) v_min2 (by rfl) T.b_min (by decide +kernel) (da_cons (de_var 7) (da_cons (de_var 8) da_nil))) (da_cons (de_callB (call_max2 (by rfl)) v_max2 (by rfl) T.b_max (by decide +kernel) (da_cons (de_var 7) (da_cons (de_var 8) da_nil))) da_nil)))) (sw_true (by rfl) (by rfl) (by rfl) (by decide +kernel)))) dss_nil)
  (dss_cons (ds_if (dt_cmp (op_eqD hu) v_eq (de_var 3) de_int (nomark _)) (dss_one (ds_setLc 4 (by rfl) sc_law_net.nd (di_seq (de_var 4)) (blkOk_by (own := [("_law_one", 7), ("_law_other", 8)]) (by kernel_rfl)) (fun _ _ _ _ _ => (dgc_tup (by rfl) (dgcs_cons 7 sc_law_net.nd (dgcs_cons 8 sc_law_net.nd dgcs_nil)))) (fun _ _ _ _ _ => dts_nil) (fun _ _ _ _ _ => (de_tup (da_cons (de_op op_mod v_mod (de_var 7) (de_op op_sub v_sub (de_var 1) de_int)) (da_cons (de_op op_addA v_add (de_op op_mod v_mod (de_var 7) (de_op op_sub v_sub (de_var 1) de_int)) de_int) da_nil)))) (sw_true (by rfl) (by rfl) (by rfl) (by decide +kernel)))) dss_nil)
  (dss_cons (ds_if (dt_cmp (op_eqD hu) v_eq (de_var 3) de_int (nomark _)) (dss_cons (ds_set 4 sc_law_net.nd (de_op op_addA v_add (de_sl (de_var 4) do_no (do_so (de_op op_mulA v_mul de_int (de_op op_mod v_mod (de_op op_fdiv v_fdiv (de_var 0) de_int) de_int)))) (de_fn c_law_bubble hr (by decide) (by rfl) (da_cons (de_var 1) da_nil) (len_cons len_nil))))
  (dss_one (ds_if (dt_cmp (op_eqD hu) v_eq (de_op op_mod v_mod (de_op op_fdiv v_fdiv (de_var 0) de_int) de_int) de_int (nomark _)) (dss_cons (ds_set 5 sc_law_net.nd (de_op op_mod v_mod (de_op op_fdiv v_fdiv (de_var 0) de_int) (de_callB call_len v_len (by rfl) T.b_len PySem.boot_len (da_cons (de_var 4) da_nil))))
  (dss_one (ds_set 4 sc_law_net.nd (de_op op_addA v_add (de_sl (de_var 4) do_no (do_so (de_var 5))) (de_sl (de_var 4) (do_so (de_op op_addA v_add (de_var 5) de_int)) do_no))))) dss_nil))) dss_nil)
  (dss_one (ds_ret (de_callTy call_tuple_of v_tup (by rfl) T.b_tuple boot_tuple (da_cons (de_var 4) da_nil))))))))))
theorem c_law_run (T : Txt mg) (F : Fun K "_law_run" "_law_run" s_law_run f fd) (hm : mg "_law_run" = some (.ref f)) (b : Binds K fd ["_law_net_here", "_law_row_here"] [])  : CalD P w K mg base 1 "_law_run" 2 g_law_run :=
  cal_mk 2 4 F hm b sc_law_run rfl rfl fun cdv A outer s H E hr => by
    have hu := hr.units
    exact (dss_cons (ds_setL 2 sc_law_run.nd (dl_callTy call_list_of v_list (by rfl) T.b_list boot_list (da_cons (de_var 1) da_nil)))
  (dss_cons (ds_for PassesOwn.never (by rfl) (di_seq (de_var 0)) (dg_tup (by rfl) (dgs_cons (dg_name 3 sc_law_run.nd) (dgs_cons (dg_name 4 sc_law_run.nd) dgs_nil))) (dss_cons (ds_set 5 sc_law_run.nd (de_callB (call_min2 (by rfl)) v_min2 (by rfl) T.b_min (by decide +kernel) (da_cons (de_idxM 2 (de_var 3)) (da_cons (de_idxM 2 (de_var 4)) da_nil))))
  (dss_cons (ds_asg (de_callB (call_max2 (by rfl)) v_max2 (by rfl) T.b_max (by decide +kernel) (da_cons (de_idxM 2 (de_var 3)) (da_cons (de_idxM 2 (de_var 4)) da_nil))) (dg_sub 2 (de_var 4)))
  (dss_one (ds_asg (de_var 5) (dg_sub 2 (de_var 3)))))))
  (dss_one (ds_ret (de_tupM 2 (by rfl) T.b_tuple)))))
theorem c_law_in_order (T : Txt mg) (F : Fun K "_law_in_order" "_law_in_order" s_law_in_order f fd) (hm : mg "_law_in_order" = some (.ref f)) (b : Binds K fd ["_law_row_here"] [])  : CalD P w K mg base 1 "_law_in_order" 1 g_law_in_order :=
  cal_mk 1 1 F hm b sc_law_in_order rfl rfl fun cdv A outer s H E hr => by
    have hu := hr.units
    exact (dss_one (ds_ret (de_cmp (op_eqD hu) v_eq ((dl_lc (by rfl) sc_law_in_order.nd (di_range2 (da_cons de_int (da_cons (de_callB call_len v_len (by rfl) T.b_len PySem.boot_len (da_cons (de_var 0) da_nil)) da_nil)) (by rfl) T.b_range) (blkOk_by (own := [("_law_k", 1)]) (by kernel_rfl)) (fun _ _ _ _ _ => (dgc_name 1 sc_law_in_order.nd)) (fun _ _ _ _ _ => (dts_one (dt_cmp op_gt v_gt (de_ix (de_var 0) (de_op op_sub v_sub (de_var 1) de_int)) (de_ix (de_var 0) (de_var 1)) (nomark _)))) (fun _ _ _ _ _ => (de_var 1)))).de ((dl_lst da_nil)).de (nomark _))))
theorem c_law_row (T : Txt mg) (F : Fun K "_law_row" "_law_row" s_law_row f fd) (hm : mg "_law_row" = some (.ref f)) (b : Binds K fd ["_law_script", "_law_at", "_law_wide", "_law_number"] []) (c_law_cell_at : CalD P w K mg base 1 "_law_cell_at" 2 g_law_cell_at) (c_law_drawn : CalD P w K mg base 1 "_law_drawn" 2 g_law_drawn) : CalD P w K mg base 2 "_law_row" 4 g_law_row :=
  cal_mk 4 3 F hm b sc_law_row rfl rfl fun cdv A outer s H E hr => by
    have hu := hr.units
    exact (dss_cons (ds_setLc 4 (by rfl) sc_law_row.nd (di_range1 (da_cons (de_var 2) da_nil) (by rfl) T.b_range) (blkOk_by (own := [("_law_k", 5)]) (by kernel_rfl)) (fun _ _ _ _ _ => (dgc_name 5 sc_law_row.nd)) (fun _ _ _ _ _ => dts_nil) (fun _ _ _ _ _ => (de_fn c_law_cell_at hr (by decide) (by rfl) (da_cons (de_var 0) (da_cons (de_op op_addA v_add (de_var 1) (de_var 5)) da_nil)) (len_cons (len_cons len_nil)))) (sw_true (by rfl) (by rfl) (by rfl) (by decide +kernel)))
  (dss_cons (ds_if (dt_cmp (op_eqD hu) v_eq (de_op op_mod v_mod (de_var 3) de_int) de_int (nomark _)) (dss_one (ds_setLc 4 (by rfl) sc_law_row.nd (di_seq (de_var 4)) (blkOk_by (own := [("_law_part", 6)]) (by kernel_rfl)) (fun _ _ _ _ _ => (dgc_name 6 sc_law_row.nd)) (fun _ _ _ _ _ => dts_nil) (fun _ _ _ _ _ => (de_op op_mod v_mod (de_var 6) de_int)) (sw_true (by rfl) (by rfl) (by rfl) (by decide +kernel)))) dss_nil)
  (dss_cons (ds_if (dt_cmp (op_eqD hu) v_eq (de_op op_mod v_mod (de_var 3) de_int) de_int (nomark _)) (dss_one (ds_setLc 4 (by rfl) sc_law_row.nd (di_range1 (da_cons (de_var 2) da_nil) (by rfl) T.b_range) (blkOk_by (own := [("_law_k", 5)]) (by kernel_rfl)) (fun _ _ _ _ _ => (dgc_name 5 sc_law_row.nd)) (fun _ _ _ _ _ => dts_nil) (fun _ _ _ _ _ => (de_op op_mod v_mod (de_fn c_law_drawn hr (by decide) (by rfl) (da_cons (de_var 3) (da_cons (de_var 5) da_nil)) (len_cons (len_cons len_nil))) (de_ix (de_tup (da_cons de_int (da_cons de_int (da_cons de_int (da_cons de_int da_nil))))) (de_op op_mod v_mod (de_op op_fdiv v_fdiv (de_var 3) de_int) de_int)))) (sw_true (by rfl) (by rfl) (by rfl) (by decide +kernel)))) dss_nil)
  (dss_one (ds_ret (de_callTy call_tuple_of v_tup (by rfl) T.b_tuple boot_tuple (da_cons (de_var 4) da_nil)))))))
theorem c_law_plain_rows (T : Txt mg) (F : Fun K "_law_plain_rows" "_law_plain_rows" s_law_plain_rows f fd) (hm : mg "_law_plain_rows" = some (.ref f)) (b : Binds K fd ["_law_wide"] [])  : CalD P w K mg base 1 "_law_plain_rows" 1 g_law_plain_rows :=
  cal_mk 1 3 F hm b sc_law_plain_rows rfl rfl fun cdv A outer s H E hr => by
    have hu := hr.units
    exact (dss_cons (ds_set 1 sc_law_plain_rows.nd ((dl_lst (da_cons (de_tup da_nil) da_nil))).de)
  (dss_cons (ds_for PassesOwn.never (by rfl) (di_range1 (da_cons (de_var 0) da_nil) (by rfl) T.b_range) (dg_name 2 sc_law_plain_rows.nd) (dss_one (ds_set 1 sc_law_plain_rows.nd (de_op op_addA v_add ((dl_lc (by rfl) sc_law_plain_rows.nd (di_seq (de_var 1)) (blkOk_by (own := [("_law_row_here", 3)]) (by kernel_rfl)) (fun _ _ _ _ _ => (dgc_name 3 sc_law_plain_rows.nd)) (fun _ _ _ _ _ => dts_nil) (fun _ _ _ _ _ => (de_op op_addA v_add (de_var 3) (de_tup (da_cons de_int da_nil)))))).de ((dl_lc (by rfl) sc_law_plain_rows.nd (di_seq (de_var 1)) (blkOk_by (own := [("_law_row_here", 3)]) (by kernel_rfl)) (fun _ _ _ _ _ => (dgc_name 3 sc_law_plain_rows.nd)) (fun _ _ _ _ _ => dts_nil) (fun _ _ _ _ _ => (de_op op_addA v_add (de_var 3) (de_tup (da_cons de_int da_nil)))))).de))))
  (dss_one (ds_ret (de_var 1)))))
theorem c_law_whole (T : Txt mg) (F : Fun K "_law_whole" "_law_whole" s_law_whole f fd) (hm : mg "_law_whole" = some (.ref f)) (b : Binds K fd ["_law_thing"] [])  : CalD P w K mg base 1 "_law_whole" 1 g_law_whole :=
  cal_mk 1 0 F hm b sc_law_whole rfl rfl fun cdv A outer s H E hr => by
    have hu := hr.units
    exact (dss_one (ds_ret (de_and (de_isi (T := "int") (de_var 0) (by rfl) T.b_isinstance (by rfl) T.b_int (by decide +kernel)) (de_one (de_not (de_isi (T := "bool") (de_var 0) (by rfl) T.b_isinstance (by rfl) T.b_bool (by decide +kernel)))))))
theorem c_law_is_swap (T : Txt mg) (F : Fun K "_law_is_swap" "_law_is_swap" s_law_is_swap f fd) (hm : mg "_law_is_swap" = some (.ref f)) (b : Binds K fd ["_law_thing", "_law_wide"] []) (c_law_whole : CalD P w K mg base 1 "_law_whole" 1 g_law_whole) : CalD P w K mg base 2 "_law_is_swap" 2 g_law_is_swap :=
  cal_mk 2 0 F hm b sc_law_is_swap rfl rfl fun cdv A outer s H E hr => by
    have hu := hr.units
    exact (dss_cons (ds_if ((dw_or (dt_not (dt_val (de_isi (T := "tuple") (de_var 0) (by rfl) T.b_isinstance (by rfl) T.b_tuple (by decide +kernel)))) (dw_or (dt_cmp (op_neD hu) v_ne (de_callB call_len v_len (by rfl) T.b_len PySem.boot_len (da_cons (de_var 0) da_nil)) de_int (nomark _)) (dw_or (dt_not (dt_val (de_fn c_law_whole hr (by decide) (by rfl) (da_cons (de_ix (de_var 0) de_int) da_nil) (len_cons len_nil)))) (dw_or1 (dt_not (dt_val (de_fn c_law_whole hr (by decide) (by rfl) (da_cons (de_ix (de_var 0) de_int) da_nil) (len_cons len_nil))))))))).dt (dss_one (ds_ret de_bl)) dss_nil)
  (dss_one (ds_ret (de_and (de_chain op_le v_le op_lt v_lt de_int (de_ix (de_var 0) de_int) (de_var 1)) (de_and (de_chain op_le v_le op_lt v_lt de_int (de_ix (de_var 0) de_int) (de_var 1)) (de_one (de_cmp (op_neD hu) v_ne (de_ix (de_var 0) de_int) (de_ix (de_var 0) de_int) (nomark _))))))))
theorem c_law_is_net (T : Txt mg) (F : Fun K "_law_is_net" "_law_is_net" s_law_is_net f fd) (hm : mg "_law_is_net" = some (.ref f)) (b : Binds K fd ["_law_thing", "_law_wide"] []) (c_law_is_swap : CalD P w K mg base 2 "_law_is_swap" 2 g_law_is_swap) : CalD P w K mg base 3 "_law_is_net" 2 g_law_is_net :=
  cal_mk 2 1 F hm b sc_law_is_net rfl rfl fun cdv A outer s H E hr => by
    have hu := hr.units
    exact (dss_cons (ds_if ((dw_or (dt_not (dt_val (de_isi (T := "tuple") (de_var 0) (by rfl) T.b_isinstance (by rfl) T.b_tuple (by decide +kernel)))) (dw_or1 (dt_cmp op_gt v_gt (de_callB call_len v_len (by rfl) T.b_len PySem.boot_len (da_cons (de_var 0) da_nil)) de_int (nomark _))))).dt (dss_one (ds_ret de_bl)) dss_nil)
  (dss_one (ds_ret (de_cmp (op_eqD hu) v_eq ((dl_lc (by rfl) sc_law_is_net.nd (di_seq (de_var 0)) (blkOk_by (own := [("_law_part", 2)]) (by kernel_rfl)) (fun _ _ _ _ _ => (dgc_name 2 sc_law_is_net.nd)) (fun _ _ _ _ _ => (dts_one (dt_not (dt_val (de_fn c_law_is_swap hr (by decide) (by rfl) (da_cons (de_var 2) (da_cons (de_var 1) da_nil)) (len_cons (len_cons len_nil))))))) (fun _ _ _ _ _ => (de_var 2)))).de ((dl_lst da_nil)).de (nomark _)))))
theorem c_law_is_row (T : Txt mg) (F : Fun K "_law_is_row" "_law_is_row" s_law_is_row f fd) (hm : mg "_law_is_row" = some (.ref f)) (b : Binds K fd ["_law_thing", "_law_wide"] []) (c_law_whole : CalD P w K mg base 1 "_law_whole" 1 g_law_whole) : CalD P w K mg base 2 "_law_is_row" 2 g_law_is_row :=
  cal_mk 2 1 F hm b sc_law_is_row rfl rfl fun cdv A outer s H E hr => by
    have hu := hr.units
    exact (dss_one (ds_ret (de_and (de_isi (T := "tuple") (de_var 0) (by rfl) T.b_isinstance (by rfl) T.b_tuple (by decide +kernel)) (de_and (de_cmp (op_eqD hu) v_eq (de_callB call_len v_len (by rfl) T.b_len PySem.boot_len (da_cons (de_var 0) da_nil)) (de_var 1) (nomark _)) (de_one (de_cmp (op_eqD hu) v_eq ((dl_lc (by rfl) sc_law_is_row.nd (di_seq (de_var 0)) (blkOk_by (own := [("_law_part", 2)]) (by kernel_rfl)) (fun _ _ _ _ _ => (dgc_name 2 sc_law_is_row.nd)) (fun _ _ _ _ _ => (dts_one (dt_not (dt_val (de_fn c_law_whole hr (by decide) (by rfl) (da_cons (de_var 2) da_nil) (len_cons len_nil)))))) (fun _ _ _ _ _ => (de_var 2)))).de ((dl_lst da_nil)).de (nomark _)))))))
theorem law_fn (T : Txt mg) (F : Fun K "law" "law" s_law f fd) (c_law_net : CalD P w K mg base 2 "_law_net" 3 g_law_net) (c_law_row : CalD P w K mg base 2 "_law_row" 4 g_law_row) (c_law_run : CalD P w K mg base 1 "_law_run" 2 g_law_run) (c_sure : CalD P w K mg base 4 "sure" 2 g_sure) (c_law_mixed : CalD P w K mg base 2 "_law_mixed" 2 g_law_mixed) (c_law_plain_rows : CalD P w K mg base 1 "_law_plain_rows" 1 g_law_plain_rows) (c_law_is_swap : CalD P w K mg base 2 "_law_is_swap" 2 g_law_is_swap) : FnOk P w K mg base CX0 5 f fd ["_law_script"] (spD K 1 g_law) :=
  fn_mk 1 11 F sc_law rfl rfl fun cdv A outer s H E hr => by
    have hu := hr.units
    exact (dss_cons (ds_set 1 sc_law.nd (de_op op_addA v_add de_int (de_op op_mod v_mod (de_fn c_law_mixed hr (by decide) (by rfl) (da_cons (de_var 0) (da_cons de_int da_nil)) (len_cons (len_cons len_nil))) de_int)))
  (dss_cons (ds_set 2 sc_law.nd (de_fn c_law_net hr (by decide) (by rfl) (da_cons (de_fn c_law_mixed hr (by decide) (by rfl) (da_cons (de_var 0) (da_cons de_int da_nil)) (len_cons (len_cons len_nil))) (da_cons (de_var 1) (da_cons de_int da_nil))) (len_cons (len_cons (len_cons len_nil)))))
  (dss_cons (ds_set 3 sc_law.nd (de_fn c_law_row hr (by decide) (by rfl) (da_cons (de_var 0) (da_cons de_int (da_cons (de_var 1) (da_cons (de_fn c_law_mixed hr (by decide) (by rfl) (da_cons (de_var 0) (da_cons de_int da_nil)) (len_cons (len_cons len_nil))) da_nil)))) (len_cons (len_cons (len_cons (len_cons len_nil))))))
  (dss_cons (ds_set 4 sc_law.nd (de_fn c_law_run hr (by decide) (by rfl) (da_cons (de_var 2) (da_cons (de_var 3) da_nil)) (len_cons (len_cons len_nil))))
  (dss_cons (ds_setLc 5 (by rfl) sc_law.nd (di_seq (de_fn c_law_plain_rows hr (by decide) (by rfl) (da_cons (de_var 1) da_nil) (len_cons len_nil))) (blkOk_by (own := [("_law_each", 10)]) (by kernel_rfl)) (fun _ _ _ _ _ => (dgc_name 10 sc_law.nd)) (fun _ _ _ _ _ => dts_nil) (fun _ _ _ _ _ => (de_fn c_law_run hr (by decide) (by rfl) (da_cons (de_var 2) (da_cons (de_var 10) da_nil)) (len_cons (len_cons len_nil)))) (sw_true (by rfl) (by rfl) (by rfl) (by decide +kernel)))
  (dss_cons (ds_setL 6 sc_law.nd (dl_lst da_nil))
  (dss_cons (ds_for PassesOwn.never (by rfl) (di_range1 (da_cons (de_var 1) da_nil) (by rfl) T.b_range) (dg_name 7 sc_law.nd) (dss_one (ds_for PassesOwn.never (by rfl) (di_range1 (da_cons (de_var 1) da_nil) (by rfl) T.b_range) (dg_name 8 sc_law.nd) (dss_one (ds_if ((dw_and (dt_cmp (op_neD hu) v_ne (de_var 7) (de_var 8) (nomark _)) (dw_and1 (dt_cmp (op_eqD hu) v_eq ((dl_lc (by rfl) sc_law.nd (di_seq (de_var 5)) (blkOk_by (own := [("_law_each", 10)]) (by kernel_rfl)) (fun _ _ _ _ _ => (dgc_name 10 sc_law.nd)) (fun _ _ _ _ _ => (dts_one (dt_cmp op_gt v_gt (de_ix (de_var 10) (de_var 7)) (de_ix (de_var 10) (de_var 8)) (nomark _)))) (fun _ _ _ _ _ => (de_var 10)))).de ((dl_lst da_nil)).de (nomark _))))).dt (dss_one (ds_app 6 (de_tup (da_cons (de_var 7) (da_cons (de_var 8) da_nil))))) dss_nil)))))
  (dss_cons (ds_set 9 sc_law.nd (de_fn c_sure hr (by decide) (by rfl) (da_cons (de_var 2) (da_cons (de_var 1) da_nil)) (len_cons (len_cons len_nil))))
  (dss_cons (ds_if ((dw_or (dt_cmp (op_neD hu) v_ne (de_var 9) (de_tupM 6 (by rfl) T.b_tuple) (nomark _)) (dw_or1 (dt_cmp (op_neD hu) v_ne ((dl_lc (by rfl) sc_law.nd (di_seq (de_var 9)) (blkOk_by (own := [("_law_pair", 11)]) (by kernel_rfl)) (fun _ _ _ _ _ => (dgc_name 11 sc_law.nd)) (fun _ _ _ _ _ => (dts_one (dt_not (dt_val (de_fn c_law_is_swap hr (by decide) (by rfl) (da_cons (de_var 11) (da_cons (de_var 1) da_nil)) (len_cons (len_cons len_nil))))))) (fun _ _ _ _ _ => (de_var 11)))).de ((dl_lst da_nil)).de (nomark _))))).dt (dss_one (ds_ret de_bl)) dss_nil)
  (dss_one (ds_ret (de_cmp (op_eqD hu) v_eq ((dl_lc (by rfl) sc_law.nd (di_seq (de_var 9)) (blkOk_by (own := [("_law_pair", 11)]) (by kernel_rfl)) (fun _ _ _ _ _ => (dgc_name 11 sc_law.nd)) (fun _ _ _ _ _ => (dts_one (dt_cmp op_gt v_gt (de_ix (de_var 4) (de_ix (de_var 11) de_int)) (de_ix (de_var 4) (de_ix (de_var 11) de_int)) (nomark _)))) (fun _ _ _ _ _ => (de_var 11)))).de ((dl_lst da_nil)).de (nomark _)))))))))))))
end
def spLaw (K : PySem.W.Frag) : Sp := spD K 1 g_law
theorem all_mk {l : PySem.W.OpenLaw} {w : World} {K : PySem.W.Frag} {h : Heap} {mg : Str → Option Value} {fa f0 f1 f2 f3 f4 f5 f6 f7 f8 f9 f10 f11 f12 f13 f14 f15 f16 f17 f18 f19 : Addr} (X : K.In h) (G : h.Ns mainGlobals mg) (hfa : mg "law" = some (.ref fa))
    {od0 an0 od1 an1 od2 an2 od3 an3 od4 an4 od5 an5 od6 an6 od7 an7 od8 an8 od9 an9 od10 an10 od11 an11 od12 an12 od13 an13 od14 an14 od15 an15 od16 an16 od17 an17 od18 an18 od19 an19 : Option Addr} {sl0 sl1 sl2 sl3 sl4 sl5 sl6 sl7 sl8 sl9 sl10 sl11 sl12 sl13 sl14 sl15 sl16 sl17 sl18 sl19 : Array (Option Value)} {oc0 kV0 dc0 pm0 cd0 ct0 oc1 kV1 dc1 pm1 cd1 ct1 oc2 kV2 dc2 pm2 cd2 ct2 oc3 kV3 dc3 pm3 cd3 ct3 oc4 kV4 dc4 pm4 cd4 ct4 oc5 kV5 dc5 pm5 cd5 ct5 oc6 kV6 dc6 pm6 cd6 ct6 oc7 kV7 dc7 pm7 cd7 ct7 oc8 kV8 dc8 pm8 cd8 ct8 oc9 kV9 dc9 pm9 cd9 ct9 oc10 kV10 dc10 pm10 cd10 ct10 oc11 kV11 dc11 pm11 cd11 ct11 oc12 kV12 dc12 pm12 cd12 ct12 oc13 kV13 dc13 pm13 cd13 ct13 oc14 kV14 dc14 pm14 cd14 ct14 oc15 kV15 dc15 pm15 cd15 ct15 oc16 kV16 dc16 pm16 cd16 ct16 oc17 kV17 dc17 pm17 cd17 ct17 oc18 kV18 dc18 pm18 cd18 ct18 oc19 kV19 dc19 pm19 cd19 ct19 : Value}
    (a0 : PySem.W.nsIn K mainGlobals "swapped" = some (some (.ref f0))) (l0 : K.lookup f0 = some ⟨oc0, od0, .func (PySem.W.fnOf "swapped" "swapped" (defArgs s_swapped) (defBody s_swapped) (defScope s_swapped) .none kV0 dc0 pm0 an0 cd0 ct0), sl0⟩) (q0 : PySem.W.codeIn K cd0 "swapped" = true) (k0 : PySem.W.keepIn K (.ref f0) = true)
    (a1 : PySem.W.nsIn K mainGlobals "run" = some (some (.ref f1))) (l1 : K.lookup f1 = some ⟨oc1, od1, .func (PySem.W.fnOf "run" "run" (defArgs s_run) (defBody s_run) (defScope s_run) .none kV1 dc1 pm1 an1 cd1 ct1), sl1⟩) (q1 : PySem.W.codeIn K cd1 "run" = true) (k1 : PySem.W.keepIn K (.ref f1) = true)
    (a2 : PySem.W.nsIn K mainGlobals "plain_rows" = some (some (.ref f2))) (l2 : K.lookup f2 = some ⟨oc2, od2, .func (PySem.W.fnOf "plain_rows" "plain_rows" (defArgs s_plain_rows) (defBody s_plain_rows) (defScope s_plain_rows) .none kV2 dc2 pm2 an2 cd2 ct2), sl2⟩) (q2 : PySem.W.codeIn K cd2 "plain_rows" = true) (k2 : PySem.W.keepIn K (.ref f2) = true)
    (a3 : PySem.W.nsIn K mainGlobals "outcomes" = some (some (.ref f3))) (l3 : K.lookup f3 = some ⟨oc3, od3, .func (PySem.W.fnOf "outcomes" "outcomes" (defArgs s_outcomes) (defBody s_outcomes) (defScope s_outcomes) .none kV3 dc3 pm3 an3 cd3 ct3), sl3⟩) (q3 : PySem.W.codeIn K cd3 "outcomes" = true) (k3 : PySem.W.keepIn K (.ref f3) = true)
    (a4 : PySem.W.nsIn K mainGlobals "sure" = some (some (.ref f4))) (l4 : K.lookup f4 = some ⟨oc4, od4, .func (PySem.W.fnOf "sure" "sure" (defArgs s_sure) (defBody s_sure) (defScope s_sure) .none kV4 dc4 pm4 an4 cd4 ct4), sl4⟩) (q4 : PySem.W.codeIn K cd4 "sure" = true) (k4 : PySem.W.keepIn K (.ref f4) = true)
    (a5 : PySem.W.nsIn K mainGlobals "_law_cell_at" = some (some (.ref f5))) (l5 : K.lookup f5 = some ⟨oc5, od5, .func (PySem.W.fnOf "_law_cell_at" "_law_cell_at" (defArgs s_law_cell_at) (defBody s_law_cell_at) (defScope s_law_cell_at) .none kV5 dc5 pm5 an5 cd5 ct5), sl5⟩) (q5 : PySem.W.codeIn K cd5 "_law_cell_at" = true) (k5 : PySem.W.keepIn K (.ref f5) = true)
    (a6 : PySem.W.nsIn K mainGlobals "_law_mixed" = some (some (.ref f6))) (l6 : K.lookup f6 = some ⟨oc6, od6, .func (PySem.W.fnOf "_law_mixed" "_law_mixed" (defArgs s_law_mixed) (defBody s_law_mixed) (defScope s_law_mixed) .none kV6 dc6 pm6 an6 cd6 ct6), sl6⟩) (q6 : PySem.W.codeIn K cd6 "_law_mixed" = true) (k6 : PySem.W.keepIn K (.ref f6) = true)
    (a7 : PySem.W.nsIn K mainGlobals "_law_drawn" = some (some (.ref f7))) (l7 : K.lookup f7 = some ⟨oc7, od7, .func (PySem.W.fnOf "_law_drawn" "_law_drawn" (defArgs s_law_drawn) (defBody s_law_drawn) (defScope s_law_drawn) .none kV7 dc7 pm7 an7 cd7 ct7), sl7⟩) (q7 : PySem.W.codeIn K cd7 "_law_drawn" = true) (k7 : PySem.W.keepIn K (.ref f7) = true)
    (a8 : PySem.W.nsIn K mainGlobals "_law_swap" = some (some (.ref f8))) (l8 : K.lookup f8 = some ⟨oc8, od8, .func (PySem.W.fnOf "_law_swap" "_law_swap" (defArgs s_law_swap) (defBody s_law_swap) (defScope s_law_swap) .none kV8 dc8 pm8 an8 cd8 ct8), sl8⟩) (q8 : PySem.W.codeIn K cd8 "_law_swap" = true) (k8 : PySem.W.keepIn K (.ref f8) = true)
    (a9 : PySem.W.nsIn K mainGlobals "_law_bubble" = some (some (.ref f9))) (l9 : K.lookup f9 = some ⟨oc9, od9, .func (PySem.W.fnOf "_law_bubble" "_law_bubble" (defArgs s_law_bubble) (defBody s_law_bubble) (defScope s_law_bubble) .none kV9 dc9 pm9 an9 cd9 ct9), sl9⟩) (q9 : PySem.W.codeIn K cd9 "_law_bubble" = true) (k9 : PySem.W.keepIn K (.ref f9) = true)
    (a10 : PySem.W.nsIn K mainGlobals "_law_net" = some (some (.ref f10))) (l10 : K.lookup f10 = some ⟨oc10, od10, .func (PySem.W.fnOf "_law_net" "_law_net" (defArgs s_law_net) (defBody s_law_net) (defScope s_law_net) .none kV10 dc10 pm10 an10 cd10 ct10), sl10⟩) (q10 : PySem.W.codeIn K cd10 "_law_net" = true) (k10 : PySem.W.keepIn K (.ref f10) = true)
    (a11 : PySem.W.nsIn K mainGlobals "_law_run" = some (some (.ref f11))) (l11 : K.lookup f11 = some ⟨oc11, od11, .func (PySem.W.fnOf "_law_run" "_law_run" (defArgs s_law_run) (defBody s_law_run) (defScope s_law_run) .none kV11 dc11 pm11 an11 cd11 ct11), sl11⟩) (q11 : PySem.W.codeIn K cd11 "_law_run" = true) (k11 : PySem.W.keepIn K (.ref f11) = true)
    (a12 : PySem.W.nsIn K mainGlobals "_law_in_order" = some (some (.ref f12))) (l12 : K.lookup f12 = some ⟨oc12, od12, .func (PySem.W.fnOf "_law_in_order" "_law_in_order" (defArgs s_law_in_order) (defBody s_law_in_order) (defScope s_law_in_order) .none kV12 dc12 pm12 an12 cd12 ct12), sl12⟩) (q12 : PySem.W.codeIn K cd12 "_law_in_order" = true) (k12 : PySem.W.keepIn K (.ref f12) = true)
    (a13 : PySem.W.nsIn K mainGlobals "_law_row" = some (some (.ref f13))) (l13 : K.lookup f13 = some ⟨oc13, od13, .func (PySem.W.fnOf "_law_row" "_law_row" (defArgs s_law_row) (defBody s_law_row) (defScope s_law_row) .none kV13 dc13 pm13 an13 cd13 ct13), sl13⟩) (q13 : PySem.W.codeIn K cd13 "_law_row" = true) (k13 : PySem.W.keepIn K (.ref f13) = true)
    (a14 : PySem.W.nsIn K mainGlobals "_law_plain_rows" = some (some (.ref f14))) (l14 : K.lookup f14 = some ⟨oc14, od14, .func (PySem.W.fnOf "_law_plain_rows" "_law_plain_rows" (defArgs s_law_plain_rows) (defBody s_law_plain_rows) (defScope s_law_plain_rows) .none kV14 dc14 pm14 an14 cd14 ct14), sl14⟩) (q14 : PySem.W.codeIn K cd14 "_law_plain_rows" = true) (k14 : PySem.W.keepIn K (.ref f14) = true)
    (a15 : PySem.W.nsIn K mainGlobals "_law_whole" = some (some (.ref f15))) (l15 : K.lookup f15 = some ⟨oc15, od15, .func (PySem.W.fnOf "_law_whole" "_law_whole" (defArgs s_law_whole) (defBody s_law_whole) (defScope s_law_whole) .none kV15 dc15 pm15 an15 cd15 ct15), sl15⟩) (q15 : PySem.W.codeIn K cd15 "_law_whole" = true) (k15 : PySem.W.keepIn K (.ref f15) = true)
    (a16 : PySem.W.nsIn K mainGlobals "_law_is_swap" = some (some (.ref f16))) (l16 : K.lookup f16 = some ⟨oc16, od16, .func (PySem.W.fnOf "_law_is_swap" "_law_is_swap" (defArgs s_law_is_swap) (defBody s_law_is_swap) (defScope s_law_is_swap) .none kV16 dc16 pm16 an16 cd16 ct16), sl16⟩) (q16 : PySem.W.codeIn K cd16 "_law_is_swap" = true) (k16 : PySem.W.keepIn K (.ref f16) = true)
    (a17 : PySem.W.nsIn K mainGlobals "_law_is_net" = some (some (.ref f17))) (l17 : K.lookup f17 = some ⟨oc17, od17, .func (PySem.W.fnOf "_law_is_net" "_law_is_net" (defArgs s_law_is_net) (defBody s_law_is_net) (defScope s_law_is_net) .none kV17 dc17 pm17 an17 cd17 ct17), sl17⟩) (q17 : PySem.W.codeIn K cd17 "_law_is_net" = true) (k17 : PySem.W.keepIn K (.ref f17) = true)
    (a18 : PySem.W.nsIn K mainGlobals "_law_is_row" = some (some (.ref f18))) (l18 : K.lookup f18 = some ⟨oc18, od18, .func (PySem.W.fnOf "_law_is_row" "_law_is_row" (defArgs s_law_is_row) (defBody s_law_is_row) (defScope s_law_is_row) .none kV18 dc18 pm18 an18 cd18 ct18), sl18⟩) (q18 : PySem.W.codeIn K cd18 "_law_is_row" = true) (k18 : PySem.W.keepIn K (.ref f18) = true)
    (a19 : PySem.W.nsIn K mainGlobals "law" = some (some (.ref f19))) (l19 : K.lookup f19 = some ⟨oc19, od19, .func (PySem.W.fnOf "law" "law" (defArgs s_law) (defBody s_law) (defScope s_law) .none kV19 dc19 pm19 an19 cd19 ct19), sl19⟩) (q19 : PySem.W.codeIn K cd19 "law" = true) (k19 : PySem.W.keepIn K (.ref f19) = true)
    (z0 : PySem.W.nsIn K mainGlobals "all" = some none)
    (z1 : PySem.W.nsIn K mainGlobals "bool" = some none)
    (z2 : PySem.W.nsIn K mainGlobals "int" = some none)
    (z3 : PySem.W.nsIn K mainGlobals "isinstance" = some none)
    (z4 : PySem.W.nsIn K mainGlobals "len" = some none)
    (z5 : PySem.W.nsIn K mainGlobals "list" = some none)
    (z6 : PySem.W.nsIn K mainGlobals "max" = some none)
    (z7 : PySem.W.nsIn K mainGlobals "min" = some none)
    (z8 : PySem.W.nsIn K mainGlobals "range" = some none)
    (z9 : PySem.W.nsIn K mainGlobals "set" = some none)
    (z10 : PySem.W.nsIn K mainGlobals "sorted" = some none)
    (z11 : PySem.W.nsIn K mainGlobals "tuple" = some none) :
    ∃ fd : FuncData, (∀ (s : Shared) (v : Value), BindsTo s fd ⟨[v], []⟩ [("_law_script", v)]) ∧ ∀ base : Heap, K.In base → base.Ns mainGlobals mg → FnOk l.prog w K mg base CX0 5 fa fd ["_law_script"] (spLaw K) := by
  have e := hfa.symm.trans (PySem.W.mg_of X G a19)
  cases e
  have T : Txt mg  := ⟨PySem.W.mg_none_of X G z0, PySem.W.mg_none_of X G z1, PySem.W.mg_none_of X G z2, PySem.W.mg_none_of X G z3, PySem.W.mg_none_of X G z4, PySem.W.mg_none_of X G z5, PySem.W.mg_none_of X G z6, PySem.W.mg_none_of X G z7, PySem.W.mg_none_of X G z8, PySem.W.mg_none_of X G z9, PySem.W.mg_none_of X G z10, PySem.W.mg_none_of X G z11⟩
  have F0 := fun_mk (st := s_swapped) l0 q0 k0
  have b0 := F0.binds (ps := ["row", "one", "other"]) fun _ _ _ _ _ _ us hl => match us, hl with | [_, _, _], _ => rfl
  have F1 := fun_mk (st := s_run) l1 q1 k1
  have b1 := F1.binds (ps := ["net", "row"]) fun _ _ _ _ _ _ us hl => match us, hl with | [_, _], _ => rfl
  have F2 := fun_mk (st := s_plain_rows) l2 q2 k2
  have b2 := F2.binds (ps := ["wide"]) fun _ _ _ _ _ _ us hl => match us, hl with | [_], _ => rfl
  have F3 := fun_mk (st := s_outcomes) l3 q3 k3
  have b3 := F3.binds (ps := ["net", "wide"]) fun _ _ _ _ _ _ us hl => match us, hl with | [_, _], _ => rfl
  have F4 := fun_mk (st := s_sure) l4 q4 k4
  have b4 := F4.binds (ps := ["net", "wide"]) fun _ _ _ _ _ _ us hl => match us, hl with | [_, _], _ => rfl
  have F5 := fun_mk (st := s_law_cell_at) l5 q5 k5
  have b5 := F5.binds (ps := ["_law_script", "_law_k"]) fun _ _ _ _ _ _ us hl => match us, hl with | [_, _], _ => rfl
  have F6 := fun_mk (st := s_law_mixed) l6 q6 k6
  have b6 := F6.binds (ps := ["_law_script", "_law_k"]) fun _ _ _ _ _ _ us hl => match us, hl with | [_, _], _ => rfl
  have F7 := fun_mk (st := s_law_drawn) l7 q7 k7
  have b7 := F7.binds (ps := ["_law_number", "_law_k"]) fun _ _ _ _ _ _ us hl => match us, hl with | [_, _], _ => rfl
  have F8 := fun_mk (st := s_law_swap) l8 q8 k8
  have b8 := F8.binds (ps := ["_law_number", "_law_wide"]) fun _ _ _ _ _ _ us hl => match us, hl with | [_, _], _ => rfl
  have F9 := fun_mk (st := s_law_bubble) l9 q9 k9
  have b9 := F9.binds (ps := ["_law_wide"]) fun _ _ _ _ _ _ us hl => match us, hl with | [_], _ => rfl
  have F10 := fun_mk (st := s_law_net) l10 q10 k10
  have b10 := F10.binds (ps := ["_law_number", "_law_wide", "_law_most"]) fun _ _ _ _ _ _ us hl => match us, hl with | [_, _, _], _ => rfl
  have F11 := fun_mk (st := s_law_run) l11 q11 k11
  have b11 := F11.binds (ps := ["_law_net_here", "_law_row_here"]) fun _ _ _ _ _ _ us hl => match us, hl with | [_, _], _ => rfl
  have F12 := fun_mk (st := s_law_in_order) l12 q12 k12
  have b12 := F12.binds (ps := ["_law_row_here"]) fun _ _ _ _ _ _ us hl => match us, hl with | [_], _ => rfl
  have F13 := fun_mk (st := s_law_row) l13 q13 k13
  have b13 := F13.binds (ps := ["_law_script", "_law_at", "_law_wide", "_law_number"]) fun _ _ _ _ _ _ us hl => match us, hl with | [_, _, _, _], _ => rfl
  have F14 := fun_mk (st := s_law_plain_rows) l14 q14 k14
  have b14 := F14.binds (ps := ["_law_wide"]) fun _ _ _ _ _ _ us hl => match us, hl with | [_], _ => rfl
  have F15 := fun_mk (st := s_law_whole) l15 q15 k15
  have b15 := F15.binds (ps := ["_law_thing"]) fun _ _ _ _ _ _ us hl => match us, hl with | [_], _ => rfl
  have F16 := fun_mk (st := s_law_is_swap) l16 q16 k16
  have b16 := F16.binds (ps := ["_law_thing", "_law_wide"]) fun _ _ _ _ _ _ us hl => match us, hl with | [_, _], _ => rfl
  have F17 := fun_mk (st := s_law_is_net) l17 q17 k17
  have b17 := F17.binds (ps := ["_law_thing", "_law_wide"]) fun _ _ _ _ _ _ us hl => match us, hl with | [_, _], _ => rfl
  have F18 := fun_mk (st := s_law_is_row) l18 q18 k18
  have b18 := F18.binds (ps := ["_law_thing", "_law_wide"]) fun _ _ _ _ _ _ us hl => match us, hl with | [_, _], _ => rfl
  have F19 := fun_mk (st := s_law) l19 q19 k19
  have b19 := F19.binds (ps := ["_law_script"]) fun _ _ _ _ _ _ us hl => match us, hl with | [_], _ => rfl
  refine ⟨PySem.W.fnOf "law" "law" (defArgs s_law) (defBody s_law) (defScope s_law) .none kV19 dc19 pm19 an19 cd19 ct19, fun s v => .of_eq rfl, fun base _ _ => ?_⟩
  have c_swapped := c_swapped (P := l.prog) (w := w) (base := base) T F0 (PySem.W.mg_of X G a0) b0
  have c_run := c_run (P := l.prog) (w := w) (base := base) T F1 (PySem.W.mg_of X G a1) b1 c_swapped
  have c_plain_rows := c_plain_rows (P := l.prog) (w := w) (base := base) T F2 (PySem.W.mg_of X G a2) b2
  have c_outcomes := c_outcomes (P := l.prog) (w := w) (base := base) T F3 (PySem.W.mg_of X G a3) b3 c_run c_plain_rows
  have c_sure := c_sure (P := l.prog) (w := w) (base := base) T F4 (PySem.W.mg_of X G a4) b4 c_outcomes
  have c_law_cell_at := c_law_cell_at (P := l.prog) (w := w) (base := base) T F5 (PySem.W.mg_of X G a5) b5
  have c_law_mixed := c_law_mixed (P := l.prog) (w := w) (base := base) T F6 (PySem.W.mg_of X G a6) b6 c_law_cell_at
  have c_law_drawn := c_law_drawn (P := l.prog) (w := w) (base := base) T F7 (PySem.W.mg_of X G a7) b7
  have c_law_swap := c_law_swap (P := l.prog) (w := w) (base := base) T F8 (PySem.W.mg_of X G a8) b8
  have c_law_bubble := c_law_bubble (P := l.prog) (w := w) (base := base) T F9 (PySem.W.mg_of X G a9) b9
  have c_law_net := c_law_net (P := l.prog) (w := w) (base := base) T F10 (PySem.W.mg_of X G a10) b10 c_law_swap c_law_drawn c_law_bubble
  have c_law_run := c_law_run (P := l.prog) (w := w) (base := base) T F11 (PySem.W.mg_of X G a11) b11
  have c_law_in_order := c_law_in_order (P := l.prog) (w := w) (base := base) T F12 (PySem.W.mg_of X G a12) b12
  have c_law_row := c_law_row (P := l.prog) (w := w) (base := base) T F13 (PySem.W.mg_of X G a13) b13 c_law_cell_at c_law_drawn
  have c_law_plain_rows := c_law_plain_rows (P := l.prog) (w := w) (base := base) T F14 (PySem.W.mg_of X G a14) b14
  have c_law_whole := c_law_whole (P := l.prog) (w := w) (base := base) T F15 (PySem.W.mg_of X G a15) b15
  have c_law_is_swap := c_law_is_swap (P := l.prog) (w := w) (base := base) T F16 (PySem.W.mg_of X G a16) b16 c_law_whole
  have c_law_is_net := c_law_is_net (P := l.prog) (w := w) (base := base) T F17 (PySem.W.mg_of X G a17) b17 c_law_is_swap
  have c_law_is_row := c_law_is_row (P := l.prog) (w := w) (base := base) T F18 (PySem.W.mg_of X G a18) b18 c_law_whole
  exact law_fn T F19 c_law_net c_law_row c_law_run c_sure c_law_mixed c_law_plain_rows c_law_is_swap
end Lw
open PySem PySem.W PyProof.Rows
set_option maxHeartbeats 0 in
theorem PySem.Challenge.cw_swapyard_k22_whole_sure_holds : PySem.Challenge.rw_swapyard_k22_whole_sure.Holds := by
  w_on; o_law; k_head; (case hw => w_witness2)
  k_fill
  refine L2.walk_of (l := PySem.Challenge.rw_swapyard_k22_whole_sure) (n := 63) (k := 5) (x := "_law_script") (CX := fun _ => L2.CX0) (sp := fun w => Lw.spLaw _) rfl (by decide) rfl ⟨rfl, by decide, by decide⟩ (fun w h Y => PySem.W.kIn_of Y) ?F (fun _ _ a ns hl _ hS => Dv.law_sp Lw.law_true hS hl) (fun _ _ _ _ _ h => h)
  case F =>
    intro w mg fa h KX G hmg
    refine' Lw.all_mk KX G hmg ?a0 ?l0 ?q0 ?k0 ?a1 ?l1 ?q1 ?k1 ?a2 ?l2 ?q2 ?k2 ?a3 ?l3 ?q3 ?k3 ?a4 ?l4 ?q4 ?k4 ?a5 ?l5 ?q5 ?k5 ?a6 ?l6 ?q6 ?k6 ?a7 ?l7 ?q7 ?k7 ?a8 ?l8 ?q8 ?k8 ?a9 ?l9 ?q9 ?k9 ?a10 ?l10 ?q10 ?k10 ?a11 ?l11 ?q11 ?k11 ?a12 ?l12 ?q12 ?k12 ?a13 ?l13 ?q13 ?k13 ?a14 ?l14 ?q14 ?k14 ?a15 ?l15 ?q15 ?k15 ?a16 ?l16 ?q16 ?k16 ?a17 ?l17 ?q17 ?k17 ?a18 ?l18 ?q18 ?k18 ?a19 ?l19 ?q19 ?k19 ?z0 ?z1 ?z2 ?z3 ?z4 ?z5 ?z6 ?z7 ?z8 ?z9 ?z10 ?z11
    (case a0 => k_is)
    (case l0 => k_is)
    (case q0 => k_is)
    (case k0 => k_is)
    (case a1 => k_is)
    (case l1 => k_is)
    (case q1 => k_is)
    (case k1 => k_is)
    (case a2 => k_is)
    (case l2 => k_is)
    (case q2 => k_is)
    (case k2 => k_is)
    (case a3 => k_is)
    (case l3 => k_is)
    (case q3 => k_is)
    (case k3 => k_is)
    (case a4 => k_is)
    (case l4 => k_is)
    (case q4 => k_is)
    (case k4 => k_is)
    (case a5 => k_is)
    (case l5 => k_is)
    (case q5 => k_is)
    (case k5 => k_is)
    (case a6 => k_is)
    (case l6 => k_is)
    (case q6 => k_is)
    (case k6 => k_is)
    (case a7 => k_is)
    (case l7 => k_is)
    (case q7 => k_is)
    (case k7 => k_is)
    (case a8 => k_is)
    (case l8 => k_is)
    (case q8 => k_is)
    (case k8 => k_is)
    (case a9 => k_is)
    (case l9 => k_is)
    (case q9 => k_is)
    (case k9 => k_is)
    (case a10 => k_is)
    (case l10 => k_is)
    (case q10 => k_is)
    (case k10 => k_is)
    (case a11 => k_is)
    (case l11 => k_is)
    (case q11 => k_is)
    (case k11 => k_is)
    (case a12 => k_is)
    (case l12 => k_is)
    (case q12 => k_is)
    (case k12 => k_is)
    (case a13 => k_is)
    (case l13 => k_is)
    (case q13 => k_is)
    (case k13 => k_is)
    (case a14 => k_is)
    (case l14 => k_is)
    (case q14 => k_is)
    (case k14 => k_is)
    (case a15 => k_is)
    (case l15 => k_is)
    (case q15 => k_is)
    (case k15 => k_is)
    (case a16 => k_is)
    (case l16 => k_is)
    (case q16 => k_is)
    (case k16 => k_is)
    (case a17 => k_is)
    (case l17 => k_is)
    (case q17 => k_is)
    (case k17 => k_is)
    (case a18 => k_is)
    (case l18 => k_is)
    (case q18 => k_is)
    (case k18 => k_is)
    (case a19 => k_is)
    (case l19 => k_is)
    (case q19 => k_is)
    (case k19 => k_is)
    (case z0 => k_is)
    (case z1 => k_is)
    (case z2 => k_is)
    (case z3 => k_is)
    (case z4 => k_is)
    (case z5 => k_is)
    (case z6 => k_is)
    (case z7 => k_is)
    (case z8 => k_is)
    (case z9 => k_is)
    (case z10 => k_is)
    (case z11 => k_is)
