import PyProof.Rows.All
import Wide.All
import OpenK.AllK
import Wide.FinOn
import HandS.ForMost
import HandS.IsInst
import HandS.TupAny
import HandS.TupMul
import HandS.Deep
import HandS.Zip
import HandS.Conv
import HandS.Style
import HandS.SortInts
import KE.KRevSl
import KE.KTupSum
import KE.KStateDown
import KE.GoesEnum
import HandS.TupSets
import HandS.Small
import HandS.Dict
import HandS.Exc
import HandS.TryOnly
import HandS.ExcOwn
import HandS.WordsExc
import HandS.ExcIs
import PySem.Challenge.RW_swapyard_k70_whole_runners
set_option Elab.async false
set_option linter.all false
set_option maxRecDepth 100000
set_option maxHeartbeats 4000000
/-! Dv: plain data over the hand layer: what an expression is worth, as a function of the data in the slots. -/
namespace Dv
open PySem PySem.Spec PyProof.Rows L2

/-! ### data in the heap -/
mutual
inductive Den (K : PySem.W.Frag) (H : Hp) : V → PyData → Prop
  | non : Den K H .non .none
  | bl (b : Bool) : Den K H (.bl b) (.bool b)
  | int (i : Int) : Den K H (.int i) (.int i)
  | str (x : Str) : Den K H (.str x) (.str x)
  | lst {a : Addr} {xs : List V} {ds : List PyData} : SqL K H a xs → ds.length ≤ sizeLine → DenL K H xs ds → Den K H (.ref a) (.list ds)
  | tup {a : Addr} {xs : List V} {ds : List PyData} : SqT K H a xs → ds.length ≤ sizeLine → DenL K H xs ds → Den K H (.ref a) (.tuple ds)
inductive DenL (K : PySem.W.Frag) (H : Hp) : List V → List PyData → Prop
  | nil : DenL K H [] []
  | cons {v : V} {vs : List V} {d : PyData} {ds : List PyData} : Den K H v d → DenL K H vs ds → DenL K H (v :: vs) (d :: ds)
end

section
variable {K : PySem.W.Frag} {H H' H1 H1' H2 H2' : Hp} {a p : Addr} {o : HO} {xs vs : List V} {ds : List PyData} {v : V} {d : PyData}
theorem sqT_mono (e : Same H H') (h : SqT K H a xs) : SqT K H' a xs := by
  rcases h with (h | ⟨o, h⟩) | h
  · exact .inl (.inl (e _ _ h))
  · exact .inl (.inr ⟨o, e _ _ h⟩)
  · exact .inr h
mutual
theorem Den.mono (e : Same H H') : ∀ (d : PyData) (v : V), Den K H v d → Den K H' v d
  | .none, _, h => by cases h; exact .non
  | .bool b, _, h => by cases h; exact .bl b
  | .int i, _, h => by cases h; exact .int i
  | .str x, _, h => by cases h; exact .str x
  | .list ds, _, h => by cases h with | lst a b c => exact .lst (e.seq a) b (DenL.mono e ds _ c)
  | .tuple ds, _, h => by cases h with | tup a b c => exact .tup (sqT_mono e a) b (DenL.mono e ds _ c)
  | .dict _, _, h => by cases h
theorem DenL.mono (e : Same H H') : ∀ (ds : List PyData) (vs : List V), DenL K H vs ds → DenL K H' vs ds
  | [], _, h => by cases h; exact .nil
  | d :: ds, _, h => by cases h with | cons a b => exact .cons (Den.mono e d _ a) (DenL.mono e ds _ b)
end
mutual
theorem Den.dp : ∀ (d : PyData) (v : V), Den K H v d → Dp K H v d
  | .none, _, h => by cases h; exact .non
  | .bool b, _, h => by cases h; exact .bl b
  | .int i, _, h => by cases h; exact .int i
  | .str x, _, h => by cases h; exact .str x
  | .list ds, _, h => by cases h with | lst a b c => exact .lst a (DenL.dp ds _ c)
  | .tuple ds, _, h => by cases h with | tup a b c => exact .tup a (DenL.dp ds _ c)
  | .dict _, _, h => by cases h
theorem DenL.dp : ∀ (ds : List PyData) (vs : List V), DenL K H vs ds → DpAll K H vs ds
  | [], _, h => by cases h; exact .nil
  | d :: ds, _, h => by cases h with | cons a b => exact .cons (Den.dp d _ a) (DenL.dp ds _ b)
end
theorem DenL.length : ∀ {ds : List PyData} {vs : List V}, DenL K H vs ds → vs.length = ds.length
  | [], _, h => by cases h; rfl
  | d :: ds, _, h => by cases h with | cons a b => rw [List.length_cons, List.length_cons, DenL.length b]
theorem DenL.get : ∀ {ds : List PyData} {vs : List V} {i : Nat} {d : PyData}, DenL K H vs ds → ds[i]? = some d → ∃ v, vs[i]? = some v ∧ Den K H v d
  | [], _, _, _, h, e => by simp at e
  | x :: ds, _, 0, d, h, e => by
    cases h with
    | cons a b =>
      have e' : x = d := by simpa using e
      subst e'
      exact ⟨_, rfl, a⟩
  | x :: ds, _, i + 1, d, h, e => by
    cases h with
    | cons a b =>
      obtain ⟨v, q1, q2⟩ := DenL.get (i := i) (d := d) b (by simpa using e)
      exact ⟨v, by simpa using q1, q2⟩
theorem DenL.get' : ∀ {ds : List PyData} {vs : List V} {i : Nat} {v : V}, DenL K H vs ds → vs[i]? = some v → ∃ d, ds[i]? = some d ∧ Den K H v d
  | [], _, _, _, h, e => by cases h; simp at e
  | x :: ds, _, 0, v, h, e => by
    cases h with
    | cons a b =>
      rename_i y ys
      have e' : y = v := by simpa using e
      subst e'
      exact ⟨_, rfl, a⟩
  | x :: ds, _, i + 1, v, h, e => by
    cases h with
    | cons a b =>
      obtain ⟨d, q1, q2⟩ := DenL.get' (i := i) (v := v) b (by simpa using e)
      exact ⟨d, by simpa using q1, q2⟩
theorem DenL.append : ∀ {ds es : List PyData} {vs ws : List V}, DenL K H vs ds → DenL K H ws es → DenL K H (vs ++ ws) (ds ++ es)
  | [], _, _, _, h, h' => by cases h; exact h'
  | x :: ds, _, _, _, h, h' => by cases h with | cons a b => exact .cons a (DenL.append b h')
theorem DenL.take : ∀ (n : Nat) {ds : List PyData} {vs : List V}, DenL K H vs ds → DenL K H (vs.take n) (ds.take n)
  | 0, _, _, _ => by rw [List.take_zero, List.take_zero]; exact .nil
  | n + 1, [], _, h => by cases h; exact .nil
  | n + 1, x :: ds, _, h => by cases h with | cons a b => exact .cons a (DenL.take n b)
theorem DenL.drop : ∀ (n : Nat) {ds : List PyData} {vs : List V}, DenL K H vs ds → DenL K H (vs.drop n) (ds.drop n)
  | 0, _, _, h => h
  | n + 1, [], _, h => by cases h; exact .nil
  | n + 1, x :: ds, _, h => by cases h with | cons a b => exact DenL.drop n b
theorem DenL.set {w : V} {e : PyData} (q : Den K H w e) : ∀ (n : Nat) {ds : List PyData} {vs : List V}, DenL K H vs ds → DenL K H (vs.set n w) (ds.set n e)
  | _, [], _, h => by cases h; exact .nil
  | 0, x :: ds, _, h => by cases h with | cons a b => exact .cons q b
  | n + 1, x :: ds, _, h => by cases h with | cons a b => exact .cons a (DenL.set q n b)
theorem DenL.reverse : ∀ {ds : List PyData} {vs : List V}, DenL K H vs ds → DenL K H vs.reverse ds.reverse
  | [], _, h => by cases h; exact .nil
  | x :: ds, _, h => by
    cases h with
    | cons a b =>
      rw [List.reverse_cons, List.reverse_cons]
      exact DenL.append (DenL.reverse b) (.cons a .nil)
theorem DenL.rep {ds : List PyData} {vs : List V} (h : DenL K H vs ds) : ∀ n : Nat, DenL K H (List.replicate n vs).flatten (List.replicate n ds).flatten
  | 0 => .nil
  | n + 1 => by
    rw [List.replicate_succ, List.replicate_succ, List.flatten_cons, List.flatten_cons]
    exact h.append (DenL.rep h n)
theorem DenL.one (h : Den K H v d) : DenL K H [v] [d] := .cons h .nil
theorem DenL.ints : ∀ (ns : List Int), DenL K H (ns.map V.int) (ns.map PyData.int)
  | [] => .nil
  | n :: ns => .cons (.int n) (DenL.ints ns)
theorem DenL.ints_of : ∀ {ns : List Int} {vs : List V}, DenL K H vs (ns.map PyData.int) → vs = ns.map V.int
  | [], _, h => by cases h; rfl
  | n :: ns, _, h => by
    cases h with
    | cons a b =>
      cases a
      rw [DenL.ints_of b]
      rfl

/-! ### the stable heap and the heap -/
/-- from (H1, H) to (H1', H'): H1 the stable part of H -/
structure Ext (H1 H H1' H' : Hp) : Prop where
  st : Same H1 H1'
  sub : Same H1' H'
  fr : ∀ b o, H b = some o → H1 b = none → H1' b = none ∧ H' b = some o
theorem Ext.refl (s : Same H1 H) : Ext H1 H H1 H := ⟨Same.refl _, s, fun _ _ e n => ⟨n, e⟩⟩
theorem Ext.trans (x : Ext H1 H H1' H') (y : Ext H1' H' H2 H2') : Ext H1 H H2 H2' := ⟨x.st.trans y.st, y.sub, fun b o e n => let ⟨n', e'⟩ := x.fr b o e n; y.fr b o e' n'⟩
theorem Ext.same (s : Same H1 H) (x : Ext H1 H H1' H') : Same H H' := fun b o e => by
  cases q : H1 b with
  | none => exact (x.fr b o e q).2
  | some o' =>
    have e2 := s b o' q
    rw [e] at e2
    cases e2
    exact x.sub _ _ (x.st _ _ q)
theorem upd_none {b : Addr} (h : upd H p o b = none) : b ≠ p ∧ H b = none := by
  by_cases e : b = p
  · subst e; rw [upd_same] at h; cases h
  · rw [upd_ne e] at h; exact ⟨e, h⟩
theorem same_new (n : H p = none) : Same H (upd H p o) := fun b x e => by rw [upd_ne (ne_of_none e n)]; exact e
theorem none_of_sub (s : Same H1 H) (n : H p = none) : H1 p = none := s.free n
theorem Ext.new (s : Same H1 H) (n : H p = none) : Ext H1 H (upd H1 p o) (upd H p o) := by
  refine ⟨same_new (s.free n), fun b x e => ?_, fun b x e m => ?_⟩
  · by_cases hb : b = p
    · subst hb; rw [upd_same] at e ⊢; exact e
    · rw [upd_ne hb] at e ⊢; exact s _ _ e
  · have hb : b ≠ p := ne_of_none e n
    rw [upd_ne hb, upd_ne hb]
    exact ⟨m, e⟩
theorem Ext.newMut (s : Same H1 H) (n : H p = none) : Ext H1 H H1 (upd H p o) :=
  ⟨Same.refl _, s.trans (same_new n), fun b x e m => ⟨m, by rw [upd_ne (ne_of_none e n)]; exact e⟩⟩
/-- a new object becomes stable -/
theorem Ext.frz (x : Ext H1 H H1' H') (n : H a = none) (e : H' a = some o) (n' : H1' a = none) : Ext H1 H (upd H1' a o) H' := by
  refine ⟨x.st.trans (same_new n'), fun b u q => ?_, fun b u q m => ?_⟩
  · by_cases hb : b = a
    · subst hb; rw [upd_same] at q; rw [← q]; exact e
    · rw [upd_ne hb] at q; exact x.sub _ _ q
  · rw [upd_ne (ne_of_none q n)]
    exact x.fr b u q m
end

/-! ### what stands in the slots -/
inductive W where
  | im (d : PyData)
  | ml (ds : List PyData)
  | md (kvs : List (Int × PyData))
  | mm (rows : List (List PyData))
  | xo (a : Addr) (c : Str)
  | fo (C : Addr) (fs : List (Str × PyData))
  | so (C a dx : Addr) (fs : List (Str × PyData))
  | ob (C : Addr) (fs : List (Str × PyData))
abbrev En := List (Option W)
def W.mut : W → Prop
  | .im _ => False
  | .xo _ _ => False
  | .fo _ _ => False
  | .so _ _ _ _ => False
  | .ob _ _ => False
  | _ => True
def DenKV (K : PySem.W.Frag) (H : Hp) : List (Key × V) → List (Int × PyData) → Prop := Paired fun p q => p.1 = Sum.inl q.1 ∧ Den K H p.2 q.2
def RowsOk (K : PySem.W.Frag) (H1 H : Hp) : List Addr → List (List PyData) → Prop := Paired fun k ds => ∃ vs, H k = some (.lst vs) ∧ H1 k = none ∧ ds.length ≤ sizeLine ∧ DenL K H1 vs ds
/-- an instance's attributes -/
def FDen (K : PySem.W.Frag) (H : Hp) : List (Str × V) → List (Str × PyData) → Prop := Paired fun p q => p.1 = q.1 ∧ Den K H p.2 q.2
def InsOk (K : PySem.W.Frag) (H1 H : Hp) (C a dx : Addr) (fs : List (Str × PyData)) : Prop := ∃ fsV, H a = some (.ins C dx fsV) ∧ H dx = some (.own a) ∧ H1 a = none ∧ H1 dx = none ∧ fs.length ≤ 900 ∧ FDen K H1 fsV fs
def WOk (K : PySem.W.Frag) (H1 H : Hp) (v : V) : W → Prop
  | .im d => Den K H1 v d
  | .ml ds => ∃ a vs, v = .ref a ∧ H a = some (.lst vs) ∧ H1 a = none ∧ ds.length ≤ sizeLine ∧ DenL K H1 vs ds
  | .md kvs => ∃ a ws, v = .ref a ∧ H a = some (.dK ws) ∧ H1 a = none ∧ kvs.length ≤ sizeLine ∧ DenKV K H1 ws kvs
  | .mm rows => ∃ (a : Addr) (ks : List Addr), v = .ref a ∧ H a = some (.lst (ks.map V.ref)) ∧ H1 a = none ∧ rows.length ≤ sizeLine ∧ a ∉ ks ∧ ks.Nodup ∧ RowsOk K H1 H ks rows
  | .xo a _ => v = .ref a
  | .fo C fs => ∃ a dx fsV, v = .ref a ∧ H1 a = some (.ins C dx fsV) ∧ H1 dx = some (.own a) ∧ fs.length ≤ 900 ∧ FDen K H1 fsV fs
  | .so C a dx fs => v = .ref a ∧ InsOk K H1 H C a dx fs
  | .ob C fs => ∃ a dx, v = .ref a ∧ InsOk K H1 H C a dx fs
/-- what a slot has for its own -/
def Owned (H : Hp) (v : V) (b : Addr) : W → Prop
  | .im _ => False
  | .xo _ _ => False
  | .fo _ _ => False
  | .so _ a dx _ => v = .ref a ∧ (b = a ∨ b = dx)
  | .ob C _ => v = .ref b ∨ ∃ (a dx : Addr) (fsV : List (Str × V)), v = .ref a ∧ H a = some (.ins C dx fsV) ∧ b = dx
  | .ml _ => v = .ref b
  | .md _ => v = .ref b
  | .mm _ => v = .ref b ∨ ∃ (a : Addr) (ks : List Addr), v = .ref a ∧ H a = some (.lst (ks.map V.ref)) ∧ b ∈ ks
theorem map_ref_inj : ∀ {ks ls : List Addr}, ks.map V.ref = ls.map V.ref → ks = ls
  | [], [], _ => rfl
  | [], _ :: _, h => by cases h
  | _ :: _, [], h => by cases h
  | k :: ks, l :: ls, h => by
    rw [List.map_cons, List.map_cons] at h
    injection h with h1 h2
    cases h1
    rw [map_ref_inj h2]
theorem RowsOk.at_ {K : PySem.W.Frag} {H1 H : Hp} : ∀ {ks : List Addr} {rows : List (List PyData)}, RowsOk K H1 H ks rows → ∀ b ∈ ks, ∃ o, H b = some o ∧ H1 b = none
  | _, _, .nil, b, hb => by cases hb
  | _, _, .cons ⟨vs, h1, h2, _⟩ t, b, hb => by
    rcases List.mem_cons.mp hb with rfl | hb
    · exact ⟨_, h1, h2⟩
    · exact RowsOk.at_ t b hb
theorem RowsOk.ext {K : PySem.W.Frag} {H1 H H1' H' : Hp} {ks : List Addr} {rows : List (List PyData)} (x : Ext H1 H H1' H') (h : RowsOk K H1 H ks rows) : RowsOk K H1' H' ks rows :=
  Paired.mapP h fun k ds ⟨vs, h1, h2, h3, h4⟩ => ⟨vs, (x.fr k _ h1 h2).2, (x.fr k _ h1 h2).1, h3, DenL.mono x.st ds vs h4⟩
theorem Owned.at_ {K : PySem.W.Frag} {H1 H : Hp} {v : V} {b : Addr} {w : W} (q : WOk K H1 H v w) (h : Owned H v b w) : ∃ o, H b = some o ∧ H1 b = none := by
  cases w with
  | im d => exact h.elim
  | xo a c => exact h.elim
  | fo C fs => exact h.elim
  | so C a dx fs =>
    obtain ⟨rfl, fsV, q1, q2, q3, q4, _⟩ := q
    rcases h with ⟨_, rfl | rfl⟩
    · exact ⟨_, q1, q3⟩
    · exact ⟨_, q2, q4⟩
  | ob C fs =>
    obtain ⟨a, dx, rfl, fsV, q1, q2, q3, q4, _⟩ := q
    rcases h with h | ⟨a', dx', fsV', h, e', rfl⟩
    · cases h
      exact ⟨_, q1, q3⟩
    · cases h
      rw [q1] at e'
      cases e'
      exact ⟨_, q2, q4⟩
  | ml ds =>
    obtain ⟨a, vs, rfl, e, n, _⟩ := q
    cases h
    exact ⟨_, e, n⟩
  | md ds =>
    obtain ⟨a, vs, rfl, e, n, _⟩ := q
    cases h
    exact ⟨_, e, n⟩
  | mm rows =>
    obtain ⟨a, ks, rfl, e, n, _, _, _, r⟩ := q
    rcases h with h | ⟨a', ks', h, e', hb⟩
    · cases h
      exact ⟨_, e, n⟩
    · cases h
      rw [e] at e'
      injection e' with e'
      injection e' with e'
      rw [← map_ref_inj e'] at hb
      exact r.at_ b hb
/-- .. is known from any heap that has it as it was -/
theorem Owned.back {K : PySem.W.Frag} {H1 H H' : Hp} {v : V} {b : Addr} {w : W} (q : WOk K H1 H v w) (s : ∀ a o, v = .ref a → H a = some o → H' a = some o) (h : Owned H' v b w) : Owned H v b w := by
  cases w with
  | im d => exact h
  | xo a c => exact h
  | fo C fs => exact h
  | so C a dx fs => exact h
  | ob C fs =>
    obtain ⟨a, dx, rfl, fsV, q1, q2, q3, q4, _⟩ := q
    rcases h with h | ⟨a', dx', fsV', h, e', rfl⟩
    · exact .inl h
    · cases h
      rw [s a _ rfl q1] at e'
      cases e'
      exact .inr ⟨a, _, _, rfl, q1, rfl⟩
  | ml ds => exact h
  | md ds => exact h
  | mm rows =>
    obtain ⟨a, ks, rfl, e, _⟩ := q
    rcases h with h | ⟨a', ks', h, e', hb⟩
    · exact .inl h
    · cases h
      rw [s a _ rfl e] at e'
      injection e' with e'
      injection e' with e'
      exact .inr ⟨a, ks, rfl, e, by rw [map_ref_inj e']; exact hb⟩
theorem FDen.mono {K : PySem.W.Frag} {H H' : Hp} {fsV : List (Str × V)} {fs : List (Str × PyData)} (e : Same H H') (h : FDen K H fsV fs) : FDen K H' fsV fs := Paired.mapP h fun p q ⟨e1, e2⟩ => ⟨e1, Den.mono e _ _ e2⟩
theorem InsOk.ext {K : PySem.W.Frag} {H1 H H1' H' : Hp} {C a dx : Addr} {fs : List (Str × PyData)} (x : Ext H1 H H1' H') (h : InsOk K H1 H C a dx fs) : InsOk K H1' H' C a dx fs := by
  obtain ⟨fsV, q1, q2, q3, q4, q5, q6⟩ := h
  exact ⟨fsV, (x.fr _ _ q1 q3).2, (x.fr _ _ q2 q4).2, (x.fr _ _ q1 q3).1, (x.fr _ _ q2 q4).1, q5, q6.mono x.st⟩
theorem WOk.ext {K : PySem.W.Frag} {H1 H H1' H' : Hp} {v : V} {w : W} (x : Ext H1 H H1' H') (h : WOk K H1 H v w) : WOk K H1' H' v w := by
  cases w with
  | im d => exact Den.mono x.st d v h
  | xo a c => exact h
  | fo C fs =>
    obtain ⟨a, dx, fsV, e0, q1, q2, q3, q4⟩ := h
    exact ⟨a, dx, fsV, e0, x.st _ _ q1, x.st _ _ q2, q3, q4.mono x.st⟩
  | so C a dx fs => exact ⟨h.1, h.2.ext x⟩
  | ob C fs =>
    obtain ⟨a, dx, e0, q⟩ := h
    exact ⟨a, dx, e0, q.ext x⟩
  | ml ds =>
    obtain ⟨a, vs, rfl, e, n, l, q⟩ := h
    exact ⟨a, vs, rfl, (x.fr a _ e n).2, (x.fr a _ e n).1, l, DenL.mono x.st ds vs q⟩
  | md kvs =>
    obtain ⟨a, ws, rfl, e, n, l, q⟩ := h
    exact ⟨a, ws, rfl, (x.fr a _ e n).2, (x.fr a _ e n).1, l, Paired.mapP q fun p z ⟨e1, e2⟩ => ⟨e1, Den.mono x.st _ _ e2⟩⟩
  | mm rows =>
    obtain ⟨a, ks, rfl, e, n, l, d1, d2, q⟩ := h
    exact ⟨a, ks, rfl, (x.fr a _ e n).2, (x.fr a _ e n).1, l, d1, d2, q.ext x⟩
structure Sok (K : PySem.W.Frag) (H1 H : Hp) (σ : L2.St) (ρ : En) : Prop where
  sub : Same H1 H
  len : σ.length = ρ.length
  at_ : ∀ (i : Nat) w, ρ[i]? = some (some w) → ∃ v, σ[i]? = some (some v) ∧ WOk K H1 H v w
  inj : ∀ (i j : Nat) w w' v v' b, ρ[i]? = some (some w) → ρ[j]? = some (some w') → σ[i]? = some (some v) → σ[j]? = some (some v') → Owned H v b w → Owned H v' b w' → i = j
theorem Sok.ext {K : PySem.W.Frag} {H1 H H1' H' : Hp} {σ : L2.St} {ρ : En} (s : Sok K H1 H σ ρ) (x : Ext H1 H H1' H') : Sok K H1' H' σ ρ :=
  ⟨x.sub, s.len, fun i w e => let ⟨v, e1, q⟩ := s.at_ i w e; ⟨v, e1, q.ext x⟩, fun i j w w' v v' b e1 e2 f1 f2 o1 o2 => by
    obtain ⟨u, g1, q1⟩ := s.at_ i w e1
    rw [f1] at g1
    cases g1
    obtain ⟨u, g2, q2⟩ := s.at_ j w' e2
    rw [f2] at g2
    cases g2
    have sm := x.same s.sub
    exact s.inj i j w w' v v' b e1 e2 f1 f2 (o1.back q1 fun a o _ h => sm _ _ h) (o2.back q2 fun a o _ h => sm _ _ h)⟩
/-- a slot gets plain data -/
theorem Sok.set {K : PySem.W.Frag} {H1 H : Hp} {σ : L2.St} {ρ : En} {v : V} {d : PyData} (s : Sok K H1 H σ ρ) (i : Nat) (q : Den K H1 v d) : Sok K H1 H (σ.set i (some v)) (ρ.set i (some (.im d))) := by
  refine ⟨s.sub, by rw [List.length_set, List.length_set]; exact s.len, fun j w e => ?_, fun j l w w' v1 v2 b e1 e2 f1 f2 o1 o2 => ?_⟩
  · by_cases hj : i = j
    · subst hj
      have hl : i < ρ.length := by
        have := (List.getElem?_eq_some_iff.mp e).1
        rwa [List.length_set] at this
      rw [List.getElem?_set_self hl] at e
      cases e
      rw [List.getElem?_set_self (by rw [s.len]; exact hl)]
      exact ⟨v, rfl, q⟩
    · rw [List.getElem?_set_ne hj] at e ⊢
      exact s.at_ j w e
  · have nj : ∀ {j w v1}, (ρ.set i (some (.im d)))[j]? = some (some w) → Owned H v1 b w → i ≠ j := fun {j w v1} e m hj => by
      subst hj
      have hl : i < ρ.length := by
        have := (List.getElem?_eq_some_iff.mp e).1
        rwa [List.length_set] at this
      rw [List.getElem?_set_self hl] at e
      cases e
      exact m
    have n1 := nj e1 o1
    have n2 := nj e2 o2
    rw [List.getElem?_set_ne n1] at e1 f1
    rw [List.getElem?_set_ne n2] at e2 f2
    exact s.inj j l w w' v1 v2 b e1 e2 f1 f2 o1 o2

/-! ### judgements -/
/-- the expression e is worth f of the slots -/
def DE (X : Cx) (e : Expr) (f : En → Option PyData) : Prop :=
  ∃ t, PE X e t ∧ ∀ (σ : L2.St) (H1 H : Hp) (ρ : En) (d : PyData) (Q : VK), Sok X.K H1 H σ ρ → f ρ = some d → (∀ v H1' H', Ext H1 H H1' H' → Den X.K H1' v d → Q v H') → t σ H Q
/-- .. a new list -/
def DL (X : Cx) (e : Expr) (f : En → Option (List PyData)) : Prop :=
  ∃ t, PE X e t ∧ ∀ (σ : L2.St) (H1 H : Hp) (ρ : En) (ds : List PyData) (Q : VK), Sok X.K H1 H σ ρ → f ρ = some ds →
    (∀ a vs H1' H', Ext H1 H H1' H' → H a = none → H' a = some (.lst vs) → H1' a = none → ds.length ≤ sizeLine → DenL X.K H1' vs ds → Q (.ref a) H') → t σ H Q
def DT (X : Cx) (e : Expr) (f : En → Option Bool) : Prop :=
  ∃ t, PT X e t ∧ ∀ (σ : L2.St) (H1 H : Hp) (ρ : En) (b : Bool) (Q : Bool → Hp → Prop), Sok X.K H1 H σ ρ → f ρ = some b → (∀ H1' H', Ext H1 H H1' H' → Q b H') → t σ H Q
def DW (X : Cx) (e : Expr) (f : En → Option Bool) : Prop :=
  ∃ t, PW X e t ∧ ∀ (σ : L2.St) (H1 H : Hp) (ρ : En) (b : Bool) (Q : Bool → Hp → Prop), Sok X.K H1 H σ ρ → f ρ = some b → (∀ H1' H', Ext H1 H H1' H' → Q b H') → t σ H Q
def DA (X : Cx) (es : List Expr) (f : En → Option (List PyData)) : Prop :=
  ∃ t, PA X es t ∧ ∀ (σ : L2.St) (H1 H : Hp) (ρ : En) (ds : List PyData) (Q : List V → Hp → Prop), Sok X.K H1 H σ ρ → f ρ = some ds → (∀ vs H1' H', Ext H1 H H1' H' → DenL X.K H1' vs ds → Q vs H') → t σ H Q

/-! ### by values -/
def V1 (K : PySem.W.Frag) (r : V → Hp → VK → Prop) (g : PyData → Option PyData) : Prop := ∀ (x : V) (d c : PyData) (H1 H : Hp) (Q : VK), Same H1 H → Den K H1 x d → g d = some c → (∀ v H1' H', Ext H1 H H1' H' → Den K H1' v c → Q v H') → r x H Q
def V2 (K : PySem.W.Frag) (r : R2) (g : PyData → PyData → Option PyData) : Prop := ∀ (x y : V) (d e c : PyData) (H1 H : Hp) (Q : VK), Same H1 H → Den K H1 x d → Den K H1 y e → g d e = some c → (∀ v H1' H', Ext H1 H H1' H' → Den K H1' v c → Q v H') → r x y H Q
def VN (K : PySem.W.Frag) (r : List V → Hp → VK → Prop) (g : List PyData → Option PyData) : Prop := ∀ (xs : List V) (ds : List PyData) (c : PyData) (H1 H : Hp) (Q : VK), Same H1 H → DenL K H1 xs ds → g ds = some c → (∀ v H1' H', Ext H1 H H1' H' → Den K H1' v c → Q v H') → r xs H Q
/-- .. a new list -/
def VNL (K : PySem.W.Frag) (r : List V → Hp → VK → Prop) (g : List PyData → Option (List PyData)) : Prop := ∀ (xs : List V) (ds cs : List PyData) (H1 H : Hp) (Q : VK), Same H1 H → DenL K H1 xs ds → g ds = some cs →
  (∀ a vs H1' H', Ext H1 H H1' H' → H a = none → H' a = some (.lst vs) → H1' a = none → cs.length ≤ sizeLine → DenL K H1' vs cs → Q (.ref a) H') → r xs H Q
def V2L (K : PySem.W.Frag) (r : R2) (g : PyData → PyData → Option (List PyData)) : Prop := ∀ (x y : V) (d e : PyData) (cs : List PyData) (H1 H : Hp) (Q : VK), Same H1 H → Den K H1 x d → Den K H1 y e → g d e = some cs →
  (∀ a vs H1' H', Ext H1 H H1' H' → H a = none → H' a = some (.lst vs) → H1' a = none → cs.length ≤ sizeLine → DenL K H1' vs cs → Q (.ref a) H') → r x y H Q

/-! ### the functions of the slots -/
def eVar (i : Nat) : En → Option PyData := fun ρ => match ρ[i]? with
  | some (some (.im d)) => some d
  | _ => none
def eC (d : PyData) : En → Option PyData := fun _ => some d
def e1 (g : PyData → Option PyData) (f : En → Option PyData) : En → Option PyData := fun ρ => (f ρ).bind g
def e2 (g : PyData → PyData → Option PyData) (f f' : En → Option PyData) : En → Option PyData := fun ρ => (f ρ).bind fun d => (f' ρ).bind fun e => g d e
def e2L (g : PyData → PyData → Option (List PyData)) (f f' : En → Option PyData) : En → Option (List PyData) := fun ρ => (f ρ).bind fun d => (f' ρ).bind fun e => g d e
def eN (g : List PyData → Option PyData) (f : En → Option (List PyData)) : En → Option PyData := fun ρ => (f ρ).bind g
def eNL (g : List PyData → Option (List PyData)) (f : En → Option (List PyData)) : En → Option (List PyData) := fun ρ => (f ρ).bind g
def eL (f : En → Option (List PyData)) : En → Option PyData := fun ρ => (f ρ).map PyData.list
def eNil : En → Option (List PyData) := fun _ => some []
def eCons (f : En → Option PyData) (r : En → Option (List PyData)) : En → Option (List PyData) := fun ρ => (f ρ).bind fun d => (r ρ).map fun ds => d :: ds
def asB : PyData → Option Bool
  | .bool b => some b
  | _ => none
def tB (f : En → Option PyData) : En → Option Bool := fun ρ => (f ρ).bind asB
def tAndD (f g : En → Option Bool) : En → Option Bool := fun ρ => (f ρ).bind fun b => if b = true then g ρ else some false
def tOrD (f g : En → Option Bool) : En → Option Bool := fun ρ => (f ρ).bind fun b => if b = true then some true else g ρ
def tNotD (f : En → Option Bool) : En → Option Bool := fun ρ => (f ρ).map fun b => !b
def eBl (f : En → Option Bool) : En → Option PyData := fun ρ => (f ρ).map PyData.bool
def eIf (t : En → Option Bool) (f g : En → Option PyData) : En → Option PyData := fun ρ => (t ρ).bind fun b => if b = true then f ρ else g ρ

theorem bind_some {α β : Type} {x : Option α} {f : α → Option β} {b : β} (h : x.bind f = some b) : ∃ a, x = some a ∧ f a = some b := by
  cases x with
  | none => cases h
  | some a => exact ⟨a, rfl, h⟩
theorem map_some {α β : Type} {x : Option α} {f : α → β} {b : β} (h : x.map f = some b) : ∃ a, x = some a ∧ f a = b := by
  cases x with
  | none => cases h
  | some a => exact ⟨a, rfl, Option.some.inj h⟩

section
variable {X : Cx} {a b c e : Expr} {es : List Expr} {fa fb fc f : En → Option PyData} {fs : En → Option (List PyData)} {pos p : Pos} {x : Str}

/-! ### names, constants -/
theorem de_var (i : Nat) {x : Str} {pos : Pos} (hN : X.N[i]? = some x := by rfl) (hv : Vis X.env.scope x := by first | exact Or.inl rfl | exact Or.inr (Or.inl rfl) | exact Or.inr (Or.inr rfl)) (hd : (x == ("__debug__" : Str)) = false := by decide)
    (hcd : (x == ("__classdict__" : Str)) = false := by decide) : DE X (.Name x pos) (eVar i) := by
  refine ⟨_, pe_var hN hv hd hcd, fun σ H1 H ρ d Q s h k => ?_⟩
  unfold eVar at h
  split at h
  · rename_i d' e
    cases h
    obtain ⟨v, e1, q⟩ := s.at_ i _ e
    exact ⟨v, e1, k v H1 H (.refl s.sub) q⟩
  · cases h
theorem de_int {i : Int} {j pos} : DE X (.Constant (.int i) j pos) (eC (.int i)) := ⟨_, pe_int, fun _ H1 H _ d _ s h k => by cases h; exact k _ H1 H (.refl s.sub) (.int i)⟩
theorem de_bl {i : Bool} {j pos} : DE X (.Constant (.bool i) j pos) (eC (.bool i)) := ⟨_, pe_bl, fun _ H1 H _ d _ s h k => by cases h; exact k _ H1 H (.refl s.sub) (.bl i)⟩
theorem de_non {j pos} : DE X (.Constant .none j pos) (eC .none) := ⟨_, pe_non, fun _ H1 H _ d _ s h k => by cases h; exact k _ H1 H (.refl s.sub) .non⟩
theorem de_str {i : Str} {j pos} : DE X (.Constant (.str i) j pos) (eC (.str i)) := ⟨_, pe_str, fun _ H1 H _ d _ s h k => by cases h; exact k _ H1 H (.refl s.sub) (.str i)⟩
theorem de_gint {i : Int} {t : Tok} (hg : Gl X x) (hm : X.mg x = some (.int i t)) (hd : (x == ("__debug__" : Str)) = false := by decide) : DE X (.Name x pos) (eC (.int i)) :=
  ⟨_, pe_glob hg hm (v := .int i) ⟨_, rfl⟩ hd, fun _ H1 H _ d _ s h k => by cases h; exact k _ H1 H (.refl s.sub) (.int i)⟩
theorem de_gstr {i : Str} {t : Tok} (hg : Gl X x) (hm : X.mg x = some (.str i t)) (hd : (x == ("__debug__" : Str)) = false := by decide) : DE X (.Name x pos) (eC (.str i)) :=
  ⟨_, pe_glob hg hm (v := .str i) ⟨_, rfl⟩ hd, fun _ H1 H _ d _ s h k => by cases h; exact k _ H1 H (.refl s.sub) (.str i)⟩

/-! ### a new list is data -/
theorem DL.de (h : DL X e fs) : DE X e (eL fs) := by
  obtain ⟨t, ht, q⟩ := h
  refine ⟨t, ht, fun σ H1 H ρ d Q s h k => ?_⟩
  obtain ⟨ds, e1, rfl⟩ := map_some h
  refine q σ H1 H ρ ds Q s e1 fun a vs H1' H' x n e' n' l dl => ?_
  exact k _ _ _ (x.frz n e' n') (.lst (.of upd_same) l (DenL.mono (same_new n') ds vs dl))

/-! ### operators -/
theorem two {ta tb : TE} (qa : ∀ (σ : L2.St) (H1 H : Hp) (ρ : En) (d : PyData) (Q : VK), Sok X.K H1 H σ ρ → fa ρ = some d → (∀ v H1' H', Ext H1 H H1' H' → Den X.K H1' v d → Q v H') → ta σ H Q)
    (qb : ∀ (σ : L2.St) (H1 H : Hp) (ρ : En) (d : PyData) (Q : VK), Sok X.K H1 H σ ρ → fb ρ = some d → (∀ v H1' H', Ext H1 H H1' H' → Den X.K H1' v d → Q v H') → tb σ H Q)
    {σ : L2.St} {H1 H : Hp} {ρ : En} {d e : PyData} {R : V → V → Hp → Prop} (s : Sok X.K H1 H σ ρ) (h1 : fa ρ = some d) (h2 : fb ρ = some e)
    (k : ∀ x y H1' H', Ext H1 H H1' H' → Den X.K H1' x d → Den X.K H1' y e → R x y H') : ta σ H fun x H1 => tb σ H1 fun y H2 => R x y H2 :=
  qa σ H1 H ρ d _ s h1 fun x H1' H' x1 d1 => qb σ H1' H' ρ e _ (s.ext x1) h2 fun y H2 H2' x2 d2 => k x y _ _ (x1.trans x2) (Den.mono x2.st _ _ d1) d2
theorem de_op {op : Operator} {r : R2} {g : PyData → PyData → Option PyData} (ho : OpR X (binaryOp op) r) (hr : V2 X.K r g) (ha : DE X a fa) (hb : DE X b fb) : DE X (.BinOp a op b pos) (e2 g fa fb) := by
  obtain ⟨ta, pa, qa⟩ := ha
  obtain ⟨tb, pb, qb⟩ := hb
  refine ⟨_, pe_op ho pa pb, fun σ H1 H ρ d Q s h k => ?_⟩
  obtain ⟨d1, h1, h⟩ := bind_some h
  obtain ⟨d2, h2, h⟩ := bind_some h
  exact two qa qb s h1 h2 fun x y H1' H' x1 q1 q2 => hr x y d1 d2 d H1' H' Q x1.sub q1 q2 h fun v H2 H2' x2 => k v H2 H2' (x1.trans x2)
theorem dl_op {op : Operator} {r : R2} {g : PyData → PyData → Option (List PyData)} (ho : OpR X (binaryOp op) r) (hr : V2L X.K r g) (ha : DE X a fa) (hb : DE X b fb) : DL X (.BinOp a op b pos) (e2L g fa fb) := by
  obtain ⟨ta, pa, qa⟩ := ha
  obtain ⟨tb, pb, qb⟩ := hb
  refine ⟨_, pe_op ho pa pb, fun σ H1 H ρ d Q s h k => ?_⟩
  obtain ⟨d1, h1, h⟩ := bind_some h
  obtain ⟨d2, h2, h⟩ := bind_some h
  refine two qa qb s h1 h2 fun x y H1' H' x1 q1 q2 => hr x y d1 d2 d H1' H' Q x1.sub q1 q2 h fun p vs H2 H2' x2 n e' n' l dl => k p vs H2 H2' (x1.trans x2) ?_ e' n' l dl
  exact (Ext.same s.sub x1).free n
theorem de_un {op : UnaryOp} {r : V → Hp → VK → Prop} {g : PyData → Option PyData} (ho : UnR X (unaryOp op) r) (hr : V1 X.K r g) (ha : DE X a fa) : DE X (.UnaryOp op a pos) (e1 g fa) := by
  obtain ⟨ta, pa, qa⟩ := ha
  refine ⟨_, pe_un ho pa, fun σ H1 H ρ d Q s h k => ?_⟩
  obtain ⟨d1, h1, h⟩ := bind_some h
  exact qa σ H1 H ρ d1 _ s h1 fun x H1' H' x1 q1 => hr x d1 d H1' H' Q x1.sub q1 h fun v H2 H2' x2 => k v H2 H2' (x1.trans x2)
theorem de_cmp {op : CmpOp} {r : R2} {g : PyData → PyData → Option PyData} (ho : OpR X (compareOp op) r) (hr : V2 X.K r g) (ha : DE X a fa) (hb : DE X b fb) (hm : behindInMarks op b = false) : DE X (.Compare a [op] [b] pos) (e2 g fa fb) := by
  obtain ⟨ta, pa, qa⟩ := ha
  obtain ⟨tb, pb, qb⟩ := hb
  refine ⟨_, pe_cmpR ho pa pb hm, fun σ H1 H ρ d Q s h k => ?_⟩
  obtain ⟨d1, h1, h⟩ := bind_some h
  obtain ⟨d2, h2, h⟩ := bind_some h
  exact two qa qb s h1 h2 fun x y H1' H' x1 q1 q2 => hr x y d1 d2 d H1' H' Q x1.sub q1 q2 h fun v H2 H2' x2 => k v H2 H2' (x1.trans x2)
theorem asB_some {d : PyData} {b : Bool} (h : asB d = some b) : d = .bool b := by
  cases d <;> first | (cases h; rfl) | cases h
theorem den_bl {K : PySem.W.Frag} {H : Hp} {v : V} {b : Bool} (h : Den K H v (.bool b)) : v = .bl b := by cases h; rfl
theorem dt_cmp {op : CmpOp} {r : R2} {g : PyData → PyData → Option PyData} (ho : OpR X (compareOp op) r) (hr : V2 X.K r g) (ha : DE X a fa) (hb : DE X b fb) (hm : behindInMarks op b = false) : DT X (.Compare a [op] [b] pos) (tB (e2 g fa fb)) := by
  obtain ⟨ta, pa, qa⟩ := ha
  obtain ⟨tb, pb, qb⟩ := hb
  refine ⟨_, pt_cmpR ho pa pb hm, fun σ H1 H ρ d Q s h k => ?_⟩
  obtain ⟨d0, h, hb'⟩ := bind_some h
  obtain ⟨d1, h1, h⟩ := bind_some h
  obtain ⟨d2, h2, h⟩ := bind_some h
  have e := asB_some hb'
  subst e
  exact two qa qb s h1 h2 fun x y H1' H' x1 q1 q2 => hr x y d1 d2 _ H1' H' _ x1.sub q1 q2 h fun v H2 H2' x2 dv => ⟨d, den_bl dv, k H2 H2' (x1.trans x2)⟩
/-- a value that is a truth, as a test -/
theorem dt_val (h : DE X e f) (he : ∀ whole, isTrue e X.env whole = (do let v ← whole; standAt e.pos; holding [v] (truthy v)) := by intro _; rfl) : DT X e (tB f) := by
  obtain ⟨t, p, q⟩ := h
  refine ⟨_, pt_val p he, fun σ H1 H ρ d Q s h k => ?_⟩
  obtain ⟨d0, h, hb'⟩ := bind_some h
  have e := asB_some hb'
  subst e
  exact q σ H1 H ρ _ _ s h fun v H1' H' x1 dv => ⟨d, den_bl dv, k _ _ x1⟩
/-! ### and, or, not as tests -/
variable {tf tg : En → Option Bool} {rest : List Expr}
theorem DW.dt (h : DW X e tf) : DT X e tf := let ⟨t, p, q⟩ := h; ⟨t, p.pt, q⟩
theorem dw_and1 (h : DT X a tf) : DW X (.BoolOp .And [a] pos) tf := let ⟨t, p, q⟩ := h; ⟨t, pw_and1 p, q⟩
theorem dw_or1 (h : DT X a tf) : DW X (.BoolOp .Or [a] pos) tf := let ⟨t, p, q⟩ := h; ⟨t, pw_or1 p, q⟩
theorem dw_and (h : DT X a tf) (h' : DW X (.BoolOp .And (b :: rest) pos) tg) : DW X (.BoolOp .And (a :: b :: rest) pos) (tAndD tf tg) := by
  obtain ⟨t, p, q⟩ := h
  obtain ⟨t', p', q'⟩ := h'
  refine ⟨_, pw_and p p', fun σ H1 H ρ d Q s h k => ?_⟩
  obtain ⟨c, h1, h⟩ := bind_some h
  refine q σ H1 H ρ c _ s h1 fun H1' H' x1 => ?_
  cases c with
  | true => exact q' σ H1' H' ρ d Q (s.ext x1) h fun H2 H2' x2 => k _ _ (x1.trans x2)
  | false =>
    cases h
    exact k _ _ x1
theorem dw_or (h : DT X a tf) (h' : DW X (.BoolOp .Or (b :: rest) pos) tg) : DW X (.BoolOp .Or (a :: b :: rest) pos) (tOrD tf tg) := by
  obtain ⟨t, p, q⟩ := h
  obtain ⟨t', p', q'⟩ := h'
  refine ⟨_, pw_or p p', fun σ H1 H ρ d Q s h k => ?_⟩
  obtain ⟨c, h1, h⟩ := bind_some h
  refine q σ H1 H ρ c _ s h1 fun H1' H' x1 => ?_
  cases c with
  | false => exact q' σ H1' H' ρ d Q (s.ext x1) h fun H2 H2' x2 => k _ _ (x1.trans x2)
  | true =>
    cases h
    exact k _ _ x1
theorem dt_not (h : DT X a tf) : DT X (.UnaryOp .Not a pos) (tNotD tf) := by
  obtain ⟨t, p, q⟩ := h
  refine ⟨_, pt_not p, fun σ H1 H ρ d Q s h k => ?_⟩
  obtain ⟨c, h1, rfl⟩ := map_some h
  exact q σ H1 H ρ c _ s h1 fun H1' H' x1 => k _ _ x1
/-! ### .. as values -/
theorem de_one {op} (h : DE X a fa) : DE X (.BoolOp op [a] pos) fa := let ⟨t, p, q⟩ := h; ⟨t, pe_one p, q⟩
def eAnd (f g : En → Option PyData) : En → Option PyData := fun ρ => (tB f ρ).bind fun b => if b = true then g ρ else some (.bool false)
def eOr (f g : En → Option PyData) : En → Option PyData := fun ρ => (tB f ρ).bind fun b => if b = true then some (.bool true) else g ρ
def eNot (f : En → Option PyData) : En → Option PyData := fun ρ => (tB f ρ).map fun b => .bool (!b)
theorem de_and (h : DE X a fa) (h' : DE X (.BoolOp .And (b :: rest) pos) fb) : DE X (.BoolOp .And (a :: b :: rest) pos) (eAnd fa fb) := by
  obtain ⟨t, p, q⟩ := h
  obtain ⟨t', p', q'⟩ := h'
  refine ⟨_, pe_and p p', fun σ H1 H ρ d Q s h k => ?_⟩
  obtain ⟨c, h1, h⟩ := bind_some h
  obtain ⟨d0, h1, hb'⟩ := bind_some h1
  have e := asB_some hb'
  subst e
  refine q σ H1 H ρ _ _ s h1 fun v H1' H' x1 dv => ⟨c, den_bl dv, ?_⟩
  cases c with
  | true => exact q' σ H1' H' ρ d Q (s.ext x1) h fun v H2 H2' x2 => k _ _ _ (x1.trans x2)
  | false =>
    cases h
    exact k _ _ _ x1 (.bl _)
theorem de_or (h : DE X a fa) (h' : DE X (.BoolOp .Or (b :: rest) pos) fb) : DE X (.BoolOp .Or (a :: b :: rest) pos) (eOr fa fb) := by
  obtain ⟨t, p, q⟩ := h
  obtain ⟨t', p', q'⟩ := h'
  refine ⟨_, pe_or p p', fun σ H1 H ρ d Q s h k => ?_⟩
  obtain ⟨c, h1, h⟩ := bind_some h
  obtain ⟨d0, h1, hb'⟩ := bind_some h1
  have e := asB_some hb'
  subst e
  refine q σ H1 H ρ _ _ s h1 fun v H1' H' x1 dv => ⟨c, den_bl dv, ?_⟩
  cases c with
  | false => exact q' σ H1' H' ρ d Q (s.ext x1) h fun v H2 H2' x2 => k _ _ _ (x1.trans x2)
  | true =>
    cases h
    exact k _ _ _ x1 (.bl _)
theorem de_not (h : DE X a fa) : DE X (.UnaryOp .Not a pos) (eNot fa) := by
  obtain ⟨t, p, q⟩ := h
  refine ⟨_, pe_not p, fun σ H1 H ρ d Q s h k => ?_⟩
  obtain ⟨c, h1, rfl⟩ := map_some h
  obtain ⟨d0, h1, hb'⟩ := bind_some h1
  have e := asB_some hb'
  subst e
  exact q σ H1 H ρ _ _ s h1 fun v H1' H' x1 dv => ⟨c, den_bl dv, k _ _ _ x1 (.bl _)⟩
theorem de_if (hc : DT X c tf) (ha : DE X a fa) (hb : DE X b fb) : DE X (.IfExp c a b pos) (eIf tf fa fb) := by
  obtain ⟨t, p, q⟩ := hc
  obtain ⟨ta, pa, qa⟩ := ha
  obtain ⟨tb, pb, qb⟩ := hb
  refine ⟨_, pe_ifExp p pa pb, fun σ H1 H ρ d Q s h k => ?_⟩
  obtain ⟨c, h1, h⟩ := bind_some h
  refine q σ H1 H ρ c _ s h1 fun H1' H' x1 => ?_
  cases c with
  | true => exact qa σ H1' H' ρ d Q (s.ext x1) h fun v H2 H2' x2 => k _ _ _ (x1.trans x2)
  | false => exact qb σ H1' H' ρ d Q (s.ext x1) h fun v H2 H2' x2 => k _ _ _ (x1.trans x2)
/-! ### arguments, displays -/
theorem da_nil : DA X [] eNil := ⟨_, pa_nil, fun σ H1 H ρ d Q s h k => by cases h; exact k [] H1 H (.refl s.sub) .nil⟩
theorem da_cons (ha : DE X a fa) (hr : DA X es fs) (hs : starEach (a :: es) X.env = (false, eval a X.env) :: starEach es X.env := by rfl) : DA X (a :: es) (eCons fa fs) := by
  obtain ⟨ta, pa, qa⟩ := ha
  obtain ⟨tr, pr, qr⟩ := hr
  refine ⟨_, pa_cons pa pr hs, fun σ H1 H ρ d Q s h k => ?_⟩
  obtain ⟨d1, h1, h⟩ := bind_some h
  obtain ⟨dr, h2, rfl⟩ := map_some h
  exact qa σ H1 H ρ d1 _ s h1 fun v H1' H' x1 q1 => qr σ H1' H' ρ dr _ (s.ext x1) h2 fun vs H2 H2' x2 q2 => k _ _ _ (x1.trans x2) (.cons (Den.mono x2.st _ _ q1) q2)
def mkT (ds : List PyData) : Option PyData := if ds.length ≤ sizeLine then some (.tuple ds) else none
def mkL (ds : List PyData) : Option (List PyData) := if ds.length ≤ sizeLine then some ds else none
theorem de_tup {k} (h : DA X es fs) : DE X (.Tuple es k pos) (eN mkT fs) := by
  obtain ⟨t, p, q⟩ := h
  refine ⟨_, pe_tup p, fun σ H1 H ρ d Q s h k => ?_⟩
  obtain ⟨ds, h1, h⟩ := bind_some h
  unfold mkT at h
  split at h
  · cases h
    rename_i hl
    refine q σ H1 H ρ ds _ s h1 fun vs H1' H' x1 q1 => ⟨by rw [q1.length]; exact hl, fun p n => ?_⟩
    exact k _ _ _ (x1.trans (.new x1.sub n)) (.tup (.of upd_same) hl (DenL.mono (same_new (x1.sub.free n)) _ _ q1))
  · cases h
theorem dl_lst (h : DA X es fs) : DL X (.List es pos) (eNL mkL fs) := by
  obtain ⟨t, p, q⟩ := h
  refine ⟨_, pe_lst p, fun σ H1 H ρ d Q s h k => ?_⟩
  obtain ⟨ds, h1, h⟩ := bind_some h
  unfold mkL at h
  split at h
  · cases h
    rename_i hl
    refine q σ H1 H ρ d _ s h1 fun vs H1' H' x1 q1 => ⟨by rw [q1.length]; exact hl, fun p n => ?_⟩
    exact k p vs H1' _ (x1.trans (.newMut x1.sub n)) ((Ext.same s.sub x1).free n) upd_same (x1.sub.free n) hl q1
  · cases h
/-! ### calls of built-ins -/
theorem de_callB {id : String} {r : List V → Hp → VK → Prop} {g : List PyData → Option PyData} (hc : CallR X (.builtin id) r) (hr : VN X.K r g) (hg : Gl X x) (hm : X.mg x = none) (hv : bootBuiltins x = some (.builtin id)) (ha : DA X (a :: es) fs) (hn : x ≠ "__name__" := by decide) (hdb : (x == ("__debug__" : Str)) = false := by decide)
    (hst : starEach (a :: es) X.env = (false, eval a X.env) :: starEach es X.env := by rfl) (hpl : (backTo pos (starEach es X.env)).any (·.1) = false := by rfl) : DE X (.Call (.Name x p) (a :: es) [] pos) (eN g fs) := by
  obtain ⟨t, pt, q⟩ := ha
  refine ⟨_, pe_callB hc hg hm hv pt hn hdb hst hpl, fun σ H1 H ρ d Q s h k => ?_⟩
  obtain ⟨ds, h1, h⟩ := bind_some h
  exact q σ H1 H ρ ds _ s h1 fun vs H1' H' x1 q1 => hr vs ds d H1' H' Q x1.sub q1 h fun v H2 H2' x2 => k _ _ _ (x1.trans x2)
theorem de_callTy {T : String} {r : List V → Hp → VK → Prop} {g : List PyData → Option PyData} (hc : CallR X (.type T) r) (hr : VN X.K r g) (hg : Gl X x) (hm : X.mg x = none) (hv : bootBuiltins x = some (.type T)) (ha : DA X (a :: es) fs) (hn : x ≠ "__name__" := by decide) (hdb : (x == ("__debug__" : Str)) = false := by decide)
    (hst : starEach (a :: es) X.env = (false, eval a X.env) :: starEach es X.env := by rfl) (hpl : (backTo pos (starEach es X.env)).any (·.1) = false := by rfl) : DE X (.Call (.Name x p) (a :: es) [] pos) (eN g fs) := by
  obtain ⟨t, pt, q⟩ := ha
  refine ⟨_, pe_callTy hc hg hm hv pt hn hdb hst hpl, fun σ H1 H ρ d Q s h k => ?_⟩
  obtain ⟨ds, h1, h⟩ := bind_some h
  exact q σ H1 H ρ ds _ s h1 fun vs H1' H' x1 q1 => hr vs ds d H1' H' Q x1.sub q1 h fun v H2 H2' x2 => k _ _ _ (x1.trans x2)
theorem dl_callB {id : String} {r : List V → Hp → VK → Prop} {g : List PyData → Option (List PyData)} (hc : CallR X (.builtin id) r) (hr : VNL X.K r g) (hg : Gl X x) (hm : X.mg x = none) (hv : bootBuiltins x = some (.builtin id)) (ha : DA X (a :: es) fs) (hn : x ≠ "__name__" := by decide) (hdb : (x == ("__debug__" : Str)) = false := by decide)
    (hst : starEach (a :: es) X.env = (false, eval a X.env) :: starEach es X.env := by rfl) (hpl : (backTo pos (starEach es X.env)).any (·.1) = false := by rfl) : DL X (.Call (.Name x p) (a :: es) [] pos) (eNL g fs) := by
  obtain ⟨t, pt, q⟩ := ha
  refine ⟨_, pe_callB hc hg hm hv pt hn hdb hst hpl, fun σ H1 H ρ d Q s h k => ?_⟩
  obtain ⟨ds, h1, h⟩ := bind_some h
  exact q σ H1 H ρ ds _ s h1 fun vs H1' H' x1 q1 => hr vs ds d H1' H' Q x1.sub q1 h fun p ws H2 H2' x2 n e' n' l dl => k _ _ _ _ (x1.trans x2) ((Ext.same s.sub x1).free n) e' n' l dl
theorem dl_callTy {T : String} {r : List V → Hp → VK → Prop} {g : List PyData → Option (List PyData)} (hc : CallR X (.type T) r) (hr : VNL X.K r g) (hg : Gl X x) (hm : X.mg x = none) (hv : bootBuiltins x = some (.type T)) (ha : DA X (a :: es) fs) (hn : x ≠ "__name__" := by decide) (hdb : (x == ("__debug__" : Str)) = false := by decide)
    (hst : starEach (a :: es) X.env = (false, eval a X.env) :: starEach es X.env := by rfl) (hpl : (backTo pos (starEach es X.env)).any (·.1) = false := by rfl) : DL X (.Call (.Name x p) (a :: es) [] pos) (eNL g fs) := by
  obtain ⟨t, pt, q⟩ := ha
  refine ⟨_, pe_callTy hc hg hm hv pt hn hdb hst hpl, fun σ H1 H ρ d Q s h k => ?_⟩
  obtain ⟨ds, h1, h⟩ := bind_some h
  exact q σ H1 H ρ ds _ s h1 fun vs H1' H' x1 q1 => hr vs ds d H1' H' Q x1.sub q1 h fun p ws H2 H2' x2 n e' n' l dl => k _ _ _ _ (x1.trans x2) ((Ext.same s.sub x1).free n) e' n' l dl
end
end Dv

namespace Dv
open PySem PySem.Spec PyProof.Rows L2

/-! ### readings told by the functions -/
def rdE (K : PySem.W.Frag) (f : En → Option PyData) : TE := fun σ H Q => ∃ (H1 : Hp) (ρ : En) (d : PyData), Sok K H1 H σ ρ ∧ f ρ = some d ∧ ∀ v H1' H', Ext H1 H H1' H' → Den K H1' v d → Q v H'
theorem DE.pe {X : Cx} {e : Expr} {f : En → Option PyData} (h : DE X e f) : PE X e (rdE X.K f) := by
  obtain ⟨t, p, q⟩ := h
  exact ⟨fun pins s σ H Q I ⟨H1, ρ, d, sk, hf, k⟩ => p.run pins s σ H Q I (q σ H1 H ρ d Q sk hf k)⟩
def rdT (K : PySem.W.Frag) (f : En → Option Bool) : TT := fun σ H Q => ∃ (H1 : Hp) (ρ : En) (d : Bool), Sok K H1 H σ ρ ∧ f ρ = some d ∧ ∀ H1' H', Ext H1 H H1' H' → Q d H'
theorem DT.pt {X : Cx} {e : Expr} {f : En → Option Bool} (h : DT X e f) : PT X e (rdT X.K f) := by
  obtain ⟨t, p, q⟩ := h
  exact ⟨fun pins s σ H Q I ⟨H1, ρ, d, sk, hf, k⟩ => p.run pins s σ H Q I (q σ H1 H ρ d Q sk hf k)⟩

/-! ### statements -/
inductive Out where
  | nx (ρ : En)
  | rt (d : PyData)
  | bk (ρ : En)
  | ct (ρ : En)
structure Sst (K : PySem.W.Frag) (B1 B H1 H : Hp) (σ : L2.St) (ρ : En) : Prop where
  sok : Sok K H1 H σ ρ
  bs : Same B1 B
  fr : Ext B1 B H1 H
  own : ∀ (i : Nat) w v b, ρ[i]? = some (some w) → σ[i]? = some (some v) → Owned H v b w → B b = none
theorem Sst.same {K : PySem.W.Frag} {B1 B H1 H : Hp} {σ : L2.St} {ρ : En} (s : Sst K B1 B H1 H σ ρ) : Same B H := s.fr.same s.bs
theorem Sst.ext {K : PySem.W.Frag} {B1 B H1 H H1' H' : Hp} {σ : L2.St} {ρ : En} (s : Sst K B1 B H1 H σ ρ) (x : Ext H1 H H1' H') : Sst K B1 B H1' H' σ ρ := ⟨s.sok.ext x, s.bs, s.fr.trans x, fun i w v b e f o => by
    obtain ⟨u, g1, q1⟩ := s.sok.at_ i w e
    rw [f] at g1
    cases g1
    have sm := x.same s.sok.sub
    exact s.own i w v b e f (o.back q1 fun a o _ h => sm _ _ h)⟩
theorem Sst.set {K : PySem.W.Frag} {B1 B H1 H : Hp} {σ : L2.St} {ρ : En} {v : V} {d : PyData} (s : Sst K B1 B H1 H σ ρ) (i : Nat) (q : Den K H1 v d) : Sst K B1 B H1 H (σ.set i (some v)) (ρ.set i (some (.im d))) := by
  refine ⟨s.sok.set i q, s.bs, s.fr, fun j w a b e f m => ?_⟩
  have n : i ≠ j := fun hj => by
    subst hj
    have hl : i < ρ.length := by
      have := (List.getElem?_eq_some_iff.mp e).1
      rwa [List.length_set] at this
    rw [List.getElem?_set_self hl] at e
    cases e
    exact m
  rw [List.getElem?_set_ne n] at e f
  exact s.own j w a b e f m
theorem W.mut_ref {K : PySem.W.Frag} {H1 H : Hp} {v : V} {w : W} (m : w.mut) (q : WOk K H1 H v w) : ∃ a o, v = .ref a ∧ H a = some o ∧ H1 a = none := by
  cases w with
  | im d => exact m.elim
  | xo a c => exact m.elim
  | fo C fs => exact m.elim
  | so C a dx fs => exact m.elim
  | ob C fs => exact m.elim
  | ml ds =>
    obtain ⟨a, vs, rfl, e, n, _⟩ := q
    exact ⟨a, _, rfl, e, n⟩
  | md ds =>
    obtain ⟨a, vs, rfl, e, n, _⟩ := q
    exact ⟨a, _, rfl, e, n⟩
  | mm ds =>
    obtain ⟨a, vs, rfl, e, n, _⟩ := q
    exact ⟨a, _, rfl, e, n⟩
theorem Sok.own_eq {K : PySem.W.Frag} {H1 H : Hp} {σ : L2.St} {ρ : En} (s : Sok K H1 H σ ρ) {i j : Nat} {w w' : W} {a : Addr} (e : ρ[i]? = some (some w)) (m : w.mut) (e2 : ρ[j]? = some (some w')) (m2 : w'.mut) (f : σ[i]? = some (some (.ref a))) (f2 : σ[j]? = some (some (.ref a))) : i = j := by
  have o : ∀ {u : W}, u.mut → Owned H (.ref a) a u := fun {u} m => by
    cases u with
    | im d => exact m.elim
    | xo a c => exact m.elim
    | fo C fs => exact m.elim
    | so C a dx fs => exact m.elim
    | ob C fs => exact m.elim
    | ml d => rfl
    | md d => rfl
    | mm d => exact .inl rfl
  exact s.inj i j w w' _ _ a e e2 f f2 (o m) (o m2)
/-- a slot gets a new thing of its own -/
theorem Sst.setM {K : PySem.W.Frag} {B1 B H1 H H1' H' : Hp} {σ : L2.St} {ρ : En} {a : Addr} {w : W} (s : Sst K B1 B H1 H σ ρ) (i : Nat) (x : Ext H1 H H1' H') (n : ∀ b, Owned H' (.ref a) b w → H b = none) (q : WOk K H1' H' (.ref a) w) :
    Sst K B1 B H1' H' (σ.set i (some (.ref a))) (ρ.set i (some w)) := by
  have s' := s.ext x
  have cs : ∀ {j : Nat} {u}, (ρ.set i (some w))[j]? = some (some u) → (i = j ∧ u = w ∧ i < ρ.length) ∨ (i ≠ j ∧ ρ[j]? = some (some u)) := fun {j u} e => by
    by_cases hj : i = j
    · subst hj
      have hl : i < ρ.length := by
        have := (List.getElem?_eq_some_iff.mp e).1
        rwa [List.length_set] at this
      rw [List.getElem?_set_self hl] at e
      cases e
      exact .inl ⟨rfl, rfl, hl⟩
    · rw [List.getElem?_set_ne hj] at e
      exact .inr ⟨hj, e⟩
  have far : ∀ {j : Nat} {u v b}, ρ[j]? = some (some u) → σ[j]? = some (some v) → Owned H' v b u → H b = none → False := fun {j u v b} e f o hb => by
    obtain ⟨v', e1, q1⟩ := s.sok.at_ j u e
    rw [f] at e1
    cases e1
    have sm := x.same s.sok.sub
    obtain ⟨o', e2, _⟩ := (o.back q1 fun a o _ h => sm _ _ h).at_ q1
    rw [hb] at e2
    cases e2
  have hσ : i < ρ.length → (σ.set i (some (V.ref a)))[i]? = some (some (.ref a)) := fun hl => List.getElem?_set_self (by rw [s.sok.len]; exact hl)
  refine ⟨⟨s'.sok.sub, by rw [List.length_set, List.length_set]; exact s.sok.len, fun j u e => ?_, fun j l u u' v1 v2 b e1 e2 f1 f2 o1 o2 => ?_⟩, s.bs, s'.fr, fun j u v b e f o => ?_⟩
  · rcases cs e with ⟨rfl, rfl, hl⟩ | ⟨hj, e⟩
    · exact ⟨_, hσ hl, q⟩
    · rw [List.getElem?_set_ne hj]
      exact s'.sok.at_ j u e
  · rcases cs e1 with ⟨rfl, rfl, hl⟩ | ⟨hj, e3⟩
    · rcases cs e2 with ⟨rfl, rfl, _⟩ | ⟨hk, e2⟩
      · rfl
      · rw [hσ hl] at f1
        cases f1
        rw [List.getElem?_set_ne hk] at f2
        exact (far e2 f2 o2 (n b o1)).elim
    · rcases cs e2 with ⟨q1, q2, hl⟩ | ⟨hk, e2⟩
      · rw [← q1, hσ hl] at f2
        cases f2
        rw [List.getElem?_set_ne hj] at f1
        subst q2
        exact (far e3 f1 o1 (n b o2)).elim
      · rw [List.getElem?_set_ne hj] at f1
        rw [List.getElem?_set_ne hk] at f2
        exact s.ext x |>.sok.inj j l u u' v1 v2 b e3 e2 f1 f2 o1 o2
  · rcases cs e with ⟨rfl, rfl, hl⟩ | ⟨hj, e⟩
    · rw [hσ hl] at f
      cases f
      exact s.same.free (n b o)
    · rw [List.getElem?_set_ne hj] at f
      exact s'.own j u v b e f o
theorem RowsOk.upd {K : PySem.W.Frag} {H1 H : Hp} {a : Addr} {o : HO} : ∀ {ks : List Addr} {rows : List (List PyData)}, RowsOk K H1 H ks rows → (∀ b ∈ ks, b ≠ a) → RowsOk K H1 (L2.upd H a o) ks rows
  | _, _, .nil, _ => .nil
  | _, _, .cons ⟨vs, h1, h2⟩ t, h => .cons ⟨vs, by rw [upd_ne (h _ (List.mem_cons_self ..))]; exact h1, h2⟩ (RowsOk.upd t fun b hb => h b (List.mem_cons_of_mem _ hb))
theorem InsOk.upd {K : PySem.W.Frag} {H1 H : Hp} {C a dx b : Addr} {o : HO} {fs : List (Str × PyData)} (h : InsOk K H1 H C a dx fs) (n1 : a ≠ b) (n2 : dx ≠ b) : InsOk K H1 (L2.upd H b o) C a dx fs := by
  obtain ⟨fsV, q1, q2, q⟩ := h
  exact ⟨fsV, by rw [upd_ne n1]; exact q1, by rw [upd_ne n2]; exact q2, q⟩
theorem WOk.upd {K : PySem.W.Frag} {H1 H : Hp} {a : Addr} {o : HO} {v : V} {u : W} (q : WOk K H1 H v u) (h : ∀ b, Owned H v b u → b ≠ a) : WOk K H1 (L2.upd H a o) v u := by
  cases u with
  | im d => exact q
  | xo a c => exact q
  | fo C fs => exact q
  | so C a' dx fs => exact ⟨q.1, q.2.upd (h _ ⟨q.1, .inl rfl⟩) (h _ ⟨q.1, .inr rfl⟩)⟩
  | ob C fs =>
    obtain ⟨a', dx, rfl, q⟩ := q
    obtain ⟨fsV, q1, _⟩ := id q
    exact ⟨a', dx, rfl, q.upd (h _ (.inl rfl)) (h _ (.inr ⟨a', dx, fsV, rfl, q1, rfl⟩))⟩
  | ml ds =>
    obtain ⟨b, vs, rfl, z1, z⟩ := q
    exact ⟨b, vs, rfl, by rw [upd_ne (h b rfl)]; exact z1, z⟩
  | md ds =>
    obtain ⟨b, vs, rfl, z1, z⟩ := q
    exact ⟨b, vs, rfl, by rw [upd_ne (h b rfl)]; exact z1, z⟩
  | mm rows =>
    obtain ⟨b, ks, rfl, z1, z2, z3, z4, z5, z6⟩ := q
    exact ⟨b, ks, rfl, by rw [upd_ne (h b (.inl rfl))]; exact z1, z2, z3, z4, z5, z6.upd fun c hc => h c (.inr ⟨b, ks, rfl, z1, hc⟩)⟩
theorem Owned.head {H : Hp} {a b : Addr} {v : V} {u : W} (h : Owned H v b u) (hv : v = .ref a) : Owned H v a u := by
  cases u with
  | im d => exact h
  | xo a c => exact h
  | fo C fs => exact h
  | so C a' dx fs =>
    refine ⟨h.1, .inl ?_⟩
    have e := hv.symm.trans h.1
    cases e
    rfl
  | ob C fs => exact .inl hv
  | ml ds => exact hv
  | md ds => exact hv
  | mm rows => exact .inl hv
/-- one of the things of a slot is changed; what it has besides is new -/
theorem Sst.change {K : PySem.W.Frag} {B1 B H1 H : Hp} {σ : L2.St} {ρ : En} {a : Addr} {v : V} {w w' : W} {o : HO} (s : Sst K B1 B H1 H σ ρ) {i : Nat} (e : ρ[i]? = some (some w)) (e' : σ[i]? = some (some v)) (oa : Owned H v a w)
    (q : WOk K H1 (upd H a o) v w') (ow : ∀ b, Owned (upd H a o) v b w' → Owned H v b w ∨ (B b = none ∧ ∀ (j : Nat) u v', i ≠ j → ρ[j]? = some (some u) → σ[j]? = some (some v') → ¬ Owned H v' b u)) : Sst K B1 B H1 (upd H a o) σ (ρ.set i (some w')) := by
  have hl : i < ρ.length := (List.getElem?_eq_some_iff.mp e).1
  have hB : B a = none := s.own i w v a e e' oa
  have n : H1 a = none := by
    obtain ⟨v1, f1, q1⟩ := s.sok.at_ i w e
    rw [e'] at f1
    cases f1
    obtain ⟨_, _, h⟩ := oa.at_ q1
    exact h
  have cs : ∀ {j : Nat} {u}, (ρ.set i (some w'))[j]? = some (some u) → (i = j ∧ u = w') ∨ (i ≠ j ∧ ρ[j]? = some (some u)) := fun {j u} e => by
    by_cases hj : i = j
    · subst hj
      rw [List.getElem?_set_self hl] at e
      cases e
      exact .inl ⟨rfl, rfl⟩
    · rw [List.getElem?_set_ne hj] at e
      exact .inr ⟨hj, e⟩
  have far : ∀ {j : Nat} {u v' b}, i ≠ j → ρ[j]? = some (some u) → σ[j]? = some (some v') → Owned H v' b u → b ≠ a := fun {j u v' b} hj e2 f2 o2 h => by
    subst h
    exact hj (s.sok.inj i j w u v v' b e e2 e' f2 oa o2)
  have bk : ∀ {j : Nat} {u v' b}, i ≠ j → ρ[j]? = some (some u) → σ[j]? = some (some v') → Owned (upd H a o) v' b u → Owned H v' b u := fun {j u v' b} hj e2 f2 o2 => by
    obtain ⟨v1, f1, q1⟩ := s.sok.at_ j u e2
    rw [f2] at f1
    cases f1
    refine o2.back q1 fun c x hv hc => ?_
    have ho : Owned H v' c u := by
      cases u with
      | im d => exact o2
      | xo a c => exact o2
      | fo C fs => exact o2
      | so C a' dx fs =>
        refine ⟨o2.1, .inl ?_⟩
        have e := hv.symm.trans o2.1
        cases e
        rfl
      | ob C fs => exact .inl hv
      | ml ds => exact hv
      | md ds => exact hv
      | mm rows => exact .inl hv
    rw [upd_ne (far hj e2 f2 ho)]
    exact hc
  refine ⟨⟨fun b x z => ?_, by rw [List.length_set]; exact s.sok.len, fun j u e2 => ?_, fun j l u u' v1 v2 b e1 e2 f1 f2 o1 o2 => ?_⟩, s.bs, ⟨s.fr.st, fun b x z => ?_, fun b x z y => ?_⟩, fun j u v1 b e2 f o2 => ?_⟩
  · rw [upd_ne (ne_of_none z n)]; exact s.sok.sub _ _ z
  · rcases cs e2 with ⟨rfl, rfl⟩ | ⟨hj, e2⟩
    · exact ⟨_, e', q⟩
    · obtain ⟨v1, f, z⟩ := s.sok.at_ j u e2
      exact ⟨v1, f, z.upd fun b ob => far hj e2 f ob⟩
  · rcases cs e1 with ⟨rfl, rfl⟩ | ⟨hj, e3⟩
    · rcases cs e2 with ⟨rfl, rfl⟩ | ⟨hk, e2⟩
      · rfl
      · rw [e'] at f1
        cases f1
        rcases ow b o1 with h | ⟨_, h⟩
        · exact s.sok.inj _ _ w u' v v2 b e e2 e' f2 h (bk hk e2 f2 o2)
        · exact (h l u' v2 hk e2 f2 (bk hk e2 f2 o2)).elim
    · rcases cs e2 with ⟨q1, q2⟩ | ⟨hk, e2⟩
      · subst q1
        subst q2
        rw [e'] at f2
        cases f2
        rcases ow b o2 with h | ⟨_, h⟩
        · exact s.sok.inj _ _ u w v1 v b e3 e f1 e' (bk hj e3 f1 o1) h
        · exact (h j u v1 hj e3 f1 (bk hj e3 f1 o1)).elim
      · exact s.sok.inj j l u u' v1 v2 b e3 e2 f1 f2 (bk hj e3 f1 o1) (bk hk e2 f2 o2)
  · rw [upd_ne (ne_of_none z n)]; exact s.fr.sub _ _ z
  · obtain ⟨z1, z2⟩ := s.fr.fr b x z y
    rw [upd_ne (ne_of_none z hB)]
    exact ⟨z1, z2⟩
  · rcases cs e2 with ⟨rfl, rfl⟩ | ⟨hj, e2⟩
    · rw [e'] at f
      cases f
      rcases ow b o2 with h | ⟨h, _⟩
      · exact s.own _ w v b e e' h
      · exact h
    · exact s.own j u v1 b e2 f (bk hj e2 f o2)
/-- the thing of a slot is changed -/
theorem Sst.mutate {K : PySem.W.Frag} {B1 B H1 H : Hp} {σ : L2.St} {ρ : En} {a : Addr} {w w' : W} {o : HO} (s : Sst K B1 B H1 H σ ρ) {i : Nat} (e : ρ[i]? = some (some w)) (m : w.mut) (e' : σ[i]? = some (some (.ref a))) (n : H1 a = none) (m' : ∀ b, Owned (upd H a o) (.ref a) b w' → b = a)
    (q : WOk K H1 (upd H a o) (.ref a) w') : Sst K B1 B H1 (upd H a o) σ (ρ.set i (some w')) := by
  have oa : Owned H (.ref a) a w := by
    cases w with
    | im d => exact m.elim
    | xo a c => exact m.elim
    | fo C fs => exact m.elim
    | so C a dx fs => exact m.elim
    | ob C fs => exact m.elim
    | ml d => rfl
    | md d => rfl
    | mm d => exact .inl rfl
  exact s.change e e' oa q fun b h => .inl (by rw [m' b h]; exact oa)
/-- the list of a slot becomes plain data -/
def frz (i : Nat) (ρ : En) : En := match ρ[i]? with
  | some (some (.ml ds)) => ρ.set i (some (.im (.list ds)))
  | _ => ρ
theorem RowsOk.stable {K : PySem.W.Frag} {H1 H : Hp} {a : Addr} {o : HO} (sm : Same H1 (L2.upd H1 a o)) : ∀ {ks : List Addr} {rows : List (List PyData)}, RowsOk K H1 H ks rows → (∀ b ∈ ks, b ≠ a) → RowsOk K (L2.upd H1 a o) H ks rows
  | _, _, .nil, _ => .nil
  | _, _, .cons ⟨vs, h1, h2, h3, h4⟩ t, h => .cons ⟨vs, h1, by rw [upd_ne (h _ (List.mem_cons_self ..))]; exact h2, h3, DenL.mono sm _ _ h4⟩ (RowsOk.stable sm t fun b hb => h b (List.mem_cons_of_mem _ hb))
theorem Sst.frz {K : PySem.W.Frag} {B1 B H1 H : Hp} {σ : L2.St} {ρ : En} (s : Sst K B1 B H1 H σ ρ) (i : Nat) : ∃ H1', Same H1 H1' ∧ Sst K B1 B H1' H σ (frz i ρ) := by
  unfold Dv.frz
  split
  · rename_i ds e
    have hl : i < ρ.length := (List.getElem?_eq_some_iff.mp e).1
    obtain ⟨v, e', a, vs, rfl, h1, h2, h3, h4⟩ := s.sok.at_ i _ e
    have hB : B a = none := s.own i _ _ a e e' rfl
    have sm : Same H1 (upd H1 a (.lst vs)) := same_new h2
    have cs : ∀ {j : Nat} {u}, (ρ.set i (some (.im (.list ds))))[j]? = some (some u) → (i = j ∧ u = .im (.list ds)) ∨ (i ≠ j ∧ ρ[j]? = some (some u)) := fun {j u} e => by
      by_cases hj : i = j
      · subst hj
        rw [List.getElem?_set_self hl] at e
        cases e
        exact .inl ⟨rfl, rfl⟩
      · rw [List.getElem?_set_ne hj] at e
        exact .inr ⟨hj, e⟩
    have sb : Same (upd H1 a (.lst vs)) H := fun b x z => by
      by_cases hb : b = a
      · subst hb; rw [upd_same] at z; rw [← z]; exact h1
      · rw [upd_ne hb] at z; exact s.sok.sub _ _ z
    refine ⟨upd H1 a (.lst vs), sm, ⟨sb, by rw [List.length_set]; exact s.sok.len, fun j u e2 => ?_, fun j l u u' v1 v2 b e1 e2 f1 f2 m1 m2 => ?_⟩, s.bs, ⟨s.fr.st.trans sm, sb, fun b x z y => ?_⟩, fun j u v1 b e2 f m2 => ?_⟩
    · rcases cs e2 with ⟨rfl, rfl⟩ | ⟨hj, e2⟩
      · exact ⟨_, e', .lst (.of upd_same) h3 (DenL.mono sm _ _ h4)⟩
      · obtain ⟨v, f, z⟩ := s.sok.at_ j u e2
        refine ⟨v, f, ?_⟩
        cases u with
        | im d => exact Den.mono sm _ _ z
        | xo a c => exact z
        | fo C fs =>
          obtain ⟨b, dx, fsV, e0, z1, z2, z3, z4⟩ := z
          exact ⟨b, dx, fsV, e0, sm _ _ z1, sm _ _ z2, z3, z4.mono sm⟩
        | so C b dx fs =>
          obtain ⟨e0, fsV, z1, z2, z3, z4, z5, z6⟩ := z
          have n1 : b ≠ a := fun h => hj (s.sok.inj i j _ _ _ _ a e e2 e' f rfl ⟨e0, .inl h.symm⟩)
          have n2 : dx ≠ a := fun h => hj (s.sok.inj i j _ _ _ _ a e e2 e' f rfl ⟨e0, .inr h.symm⟩)
          exact ⟨e0, fsV, z1, z2, by rw [upd_ne n1]; exact z3, by rw [upd_ne n2]; exact z4, z5, z6.mono sm⟩
        | ob C fs =>
          obtain ⟨b, dx, e0, fsV, z1, z2, z3, z4, z5, z6⟩ := z
          have n1 : b ≠ a := fun h => hj (s.sok.inj i j _ _ _ _ a e e2 e' f rfl (.inl (by rw [e0, h])))
          have n2 : dx ≠ a := fun h => hj (s.sok.inj i j _ _ _ _ a e e2 e' f rfl (.inr ⟨b, dx, fsV, e0, z1, h.symm⟩))
          exact ⟨b, dx, e0, fsV, z1, z2, by rw [upd_ne n1]; exact z3, by rw [upd_ne n2]; exact z4, z5, z6.mono sm⟩
        | ml es =>
          obtain ⟨b, ws, rfl, z1, z2, z3, z4⟩ := z
          have hb : b ≠ a := fun h => hj (s.sok.own_eq e trivial e2 trivial e' (by rw [f, h]))
          exact ⟨b, ws, rfl, z1, by rw [upd_ne hb]; exact z2, z3, DenL.mono sm _ _ z4⟩
        | md es =>
          obtain ⟨b, ws, rfl, z1, z2, z3, z4⟩ := z
          have hb : b ≠ a := fun h => hj (s.sok.own_eq e trivial e2 trivial e' (by rw [f, h]))
          exact ⟨b, ws, rfl, z1, by rw [upd_ne hb]; exact z2, z3, Paired.mapP z4 fun p z ⟨e1, e2⟩ => ⟨e1, Den.mono sm _ _ e2⟩⟩
        | mm rows =>
          obtain ⟨b, ks, rfl, z1, z2, z3, z4, z5, z6⟩ := z
          have hb : b ≠ a := fun h => hj (s.sok.own_eq e trivial e2 trivial e' (by rw [f, h]))
          refine ⟨b, ks, rfl, z1, by rw [upd_ne hb]; exact z2, z3, z4, z5, ?_⟩
          have hk : ∀ c ∈ ks, c ≠ a := fun c hc h => hj (s.sok.inj i j _ _ _ _ a e e2 e' f rfl (.inr ⟨b, ks, rfl, z1, by rw [← h]; exact hc⟩))
          exact z6.stable sm hk
    · rcases cs e1 with ⟨rfl, rfl⟩ | ⟨hj, e1⟩
      · exact m1.elim
      · rcases cs e2 with ⟨rfl, rfl⟩ | ⟨hk, e2⟩
        · exact m2.elim
        · exact s.sok.inj j l u u' v1 v2 b e1 e2 f1 f2 m1 m2
    · obtain ⟨z1, z2⟩ := s.fr.fr b x z y
      rw [upd_ne (ne_of_none z hB)]
      exact ⟨z1, z2⟩
    · rcases cs e2 with ⟨rfl, rfl⟩ | ⟨hj, e2⟩
      · exact m2.elim
      · exact s.own j u v1 b e2 f m2
  · exact ⟨H1, .refl _, s⟩

def EndsOk (K : PySem.W.Frag) (B1 B H1 : Hp) (D : Ends) : Out → Prop
  | .nx ρ => ∀ σ H1' H', Same H1 H1' → Sst K B1 B H1' H' σ ρ → D.nx σ H'
  | .rt d => ∀ v H1' H', Ext B1 B H1' H' → Den K H1' v d → D.rt v H'
  | .bk ρ => ∀ σ H1' H', Same H1 H1' → Sst K B1 B H1' H' σ ρ → D.bk σ H'
  | .ct ρ => ∀ σ H1' H', Same H1 H1' → Sst K B1 B H1' H' σ ρ → D.ct σ H'
theorem EndsOk.mono {K : PySem.W.Frag} {B1 B H1 H1' : Hp} {D : Ends} {o : Out} (h : EndsOk K B1 B H1 D o) (s : Same H1 H1') : EndsOk K B1 B H1' D o := by
  cases o with
  | nx ρ => exact fun σ H2 H' s' => h σ H2 H' (s.trans s')
  | rt d => exact h
  | bk ρ => exact fun σ H2 H' s' => h σ H2 H' (s.trans s')
  | ct ρ => exact fun σ H2 H' s' => h σ H2 H' (s.trans s')
def DS (X : Cx) (st : Stmt) (f : En → Option Out) : Prop :=
  ∃ t, PS X st t ∧ ∀ (B1 B H1 H : Hp) (σ : L2.St) (ρ : En) (o : Out) (D : Ends), Sst X.K B1 B H1 H σ ρ → f ρ = some o → EndsOk X.K B1 B H1 D o → t D σ H
def DSs (X : Cx) (sts : List Stmt) (f : En → Option Out) : Prop :=
  ∃ t, PSs X sts t ∧ ∀ (B1 B H1 H : Hp) (σ : L2.St) (ρ : En) (o : Out) (D : Ends), Sst X.K B1 B H1 H σ ρ → f ρ = some o → EndsOk X.K B1 B H1 D o → t D σ H
/-- a target -/
def DG (X : Cx) (tg : Expr) (g : PyData → En → Option En) : Prop :=
  ∃ t, PG X tg t ∧ ∀ (B1 B H1 H : Hp) (σ : L2.St) (ρ ρ' : En) (v : V) (d : PyData) (Q : L2.St → Hp → Prop), Sst X.K B1 B H1 H σ ρ → Den X.K H1 v d → g d ρ = some ρ' → (∀ σ' H1' H', Same H1 H1' → Sst X.K B1 B H1' H' σ' ρ' → Q σ' H') → t v σ H Q
def DGs (X : Cx) (tgs : List Expr) (g : List PyData → En → Option En) : Prop :=
  ∃ t, PGs X tgs t ∧ ∀ (B1 B H1 H : Hp) (σ : L2.St) (ρ ρ' : En) (vs : List V) (ds : List PyData) (Q : L2.St → Hp → Prop), Sst X.K B1 B H1 H σ ρ → DenL X.K H1 vs ds → g ds ρ = some ρ' → (∀ σ' H1' H', Same H1 H1' → Sst X.K B1 B H1' H' σ' ρ' → Q σ' H') → t vs σ H Q

/-! ### the functions -/
def gN (i : Nat) : PyData → En → Option En := fun d ρ => some (ρ.set i (some (.im d)))
def gNilD : List PyData → En → Option En := fun ds ρ => match ds with
  | [] => some ρ
  | _ => none
def gConsD (g : PyData → En → Option En) (r : List PyData → En → Option En) : List PyData → En → Option En := fun ds ρ => match ds with
  | [] => none
  | d :: ds => (g d ρ).bind fun ρ' => r ds ρ'
def gT (n : Nat) (g : List PyData → En → Option En) : PyData → En → Option En := fun d ρ => match d with
  | .tuple ds => if ds.length = n then g ds ρ else none
  | _ => none
def gSubK (i : Nat) (k : PyData) (d : PyData) (ρ : En) : Option En := match k, ρ[i]? with
  | .int k, some (some (.ml ds)) => (ixN ds.length k).map fun j => ρ.set i (some (.ml (ds.set j d)))
  | _, _ => none
def gSubM (i : Nat) (fk : En → Option PyData) : PyData → En → Option En := fun d ρ => (fk ρ).bind fun k => gSubK i k d ρ
def appK (i : Nat) (d : PyData) (ρ : En) : Option En := match ρ[i]? with
  | some (some (.ml ds)) => if ds.length < sizeLine then some (ρ.set i (some (.ml (ds ++ [d])))) else none
  | _ => none
def sNil : En → Option Out := fun ρ => some (.nx ρ)
def thenD (g : En → Option Out) : Out → Option Out
  | .nx ρ => g ρ
  | o => some o
def sSeq (f g : En → Option Out) : En → Option Out := fun ρ => (f ρ).bind (thenD g)
def sAsg (f : En → Option PyData) (g : PyData → En → Option En) : En → Option Out := fun ρ => (f ρ).bind fun d => (g d ρ).map Out.nx
def sAsgL (i : Nat) (f : En → Option (List PyData)) : En → Option Out := fun ρ => (f ρ).map fun ds => .nx (ρ.set i (some (.ml ds)))
def sApp (i : Nat) (f : En → Option PyData) : En → Option Out := fun ρ => (f ρ).bind fun d => (appK i d ρ).map Out.nx
def sAug (i : Nat) (g : Int → Int → Int) (f : En → Option PyData) : En → Option Out := fun ρ => match ρ[i]? with
  | some (some (.im (.int a))) => (f ρ).bind fun d => match d with
    | .int b => some (.nx (ρ.set i (some (.im (.int (g a b))))))
    | _ => none
  | _ => none
def sIf (t : En → Option Bool) (f g : En → Option Out) : En → Option Out := fun ρ => (t ρ).bind fun b => if b = true then f ρ else g ρ
def sRet (f : En → Option PyData) : En → Option Out := fun ρ => (f ρ).map Out.rt
def sRetN : En → Option Out := fun _ => some (.rt .none)
def sFrz (i : Nat) (f : En → Option Out) : En → Option Out := fun ρ => f (frz i ρ)
def sBreak : En → Option Out := fun ρ => some (.bk ρ)
def sCont : En → Option Out := fun ρ => some (.ct ρ)
def loopD (go : En → Option Out) : Out → Option Out
  | .nx ρ => go ρ
  | .ct ρ => go ρ
  | .bk ρ => some (.nx ρ)
  | .rt d => some (.rt d)
def forD (g : PyData → En → Option En) (f : En → Option Out) : List PyData → En → Option Out
  | [], ρ => some (.nx ρ)
  | d :: ds, ρ => (g d ρ).bind fun ρ1 => (f ρ1).bind (loopD (forD g f ds))
def sFor (fi : En → Option (List PyData)) (g : PyData → En → Option En) (f : En → Option Out) : En → Option Out := fun ρ => (fi ρ).bind fun ds => forD g f ds ρ
def whileD (t : En → Option Bool) (f : En → Option Out) : Nat → En → Option Out
  | 0, _ => none
  | n + 1, ρ => (t ρ).bind fun b => if b = true then (f ρ).bind (loopD (whileD t f n)) else some (.nx ρ)

section
variable {X : Cx} {a b c e : Expr} {es : List Expr} {fa fb fc f : En → Option PyData} {fs : En → Option (List PyData)} {pos p : Pos} {x : Str} {st : Stmt} {sts : List Stmt} {g h : En → Option Out} {tg : Expr} {tf : En → Option Bool}
theorem dss_nil : DSs X [] sNil := ⟨_, pss_nil, fun B1 B H1 H σ ρ o D s h k => by cases h; exact k σ H1 H (.refl _) s⟩
theorem dss_cons (h1 : DS X st g) (h2 : DSs X sts h) : DSs X (st :: sts) (sSeq g h) := by
  obtain ⟨t, p, q⟩ := h1
  obtain ⟨u, p', q'⟩ := h2
  refine ⟨_, pss_cons p p', fun B1 B H1 H σ ρ o D s e k => ?_⟩
  obtain ⟨o1, e1, e⟩ := bind_some e
  refine q B1 B H1 H σ ρ o1 { D with nx := u D } s e1 ?_
  cases o1 with
  | nx ρ' => exact fun σ' H1' H' sm s' => q' B1 B H1' H' σ' ρ' o D s' e (k.mono sm)
  | rt d => cases e; exact k
  | bk ρ' => cases e; exact k
  | ct ρ' => cases e; exact k
theorem dss_one (h1 : DS X st g) : DSs X [st] g := by
  obtain ⟨t, p, q⟩ := h1
  exact ⟨_, pss_one p, q⟩
theorem dss_frz (i : Nat) (h : DSs X sts g) : DSs X sts (sFrz i g) := by
  obtain ⟨t, p, q⟩ := h
  refine ⟨t, p, fun B1 B H1 H σ ρ o D s e k => ?_⟩
  obtain ⟨H1', sm, s'⟩ := s.frz i
  exact q B1 B H1' H σ _ o D s' e (k.mono sm)
theorem ds_frz (i : Nat) (h : DS X st g) : DS X st (sFrz i g) := by
  obtain ⟨t, p, q⟩ := h
  refine ⟨t, p, fun B1 B H1 H σ ρ o D s e k => ?_⟩
  obtain ⟨H1', sm, s'⟩ := s.frz i
  exact q B1 B H1' H σ _ o D s' e (k.mono sm)
theorem ds_ret (h : DE X e f) : DS X (.Return (some e) pos) (sRet f) := by
  obtain ⟨t, p, q⟩ := h
  refine ⟨_, ps_ret p, fun B1 B H1 H σ ρ o D s e k => ?_⟩
  obtain ⟨d, e1, rfl⟩ := map_some e
  exact q σ H1 H ρ d _ s.sok e1 fun v H1' H' x dv => k v H1' H' (s.fr.trans x) dv
theorem ds_retN : DS X (.Return none pos) sRetN := ⟨_, ps_retN, fun B1 B H1 H σ ρ o D s e k => by cases e; exact k .non H1 H s.fr .non⟩
theorem ds_if {ss us : List Stmt} (hc : DT X c tf) (ha : DSs X ss g) (hb : DSs X us h) : DS X (.If c ss us pos) (sIf tf g h) := by
  obtain ⟨t, p, q⟩ := hc
  obtain ⟨ta, pa, qa⟩ := ha
  obtain ⟨tb, pb, qb⟩ := hb
  refine ⟨_, ps_if p pa pb, fun B1 B H1 H σ ρ o D s e k => ?_⟩
  obtain ⟨c, e1, e⟩ := bind_some e
  refine q σ H1 H ρ c _ s.sok e1 fun H1' H' x => ?_
  cases c with
  | true => exact qa B1 B H1' H' σ ρ o D (s.ext x) e (k.mono x.st)
  | false => exact qb B1 B H1' H' σ ρ o D (s.ext x) e (k.mono x.st)
theorem ds_break : DS X (.Break pos) sBreak := ⟨_, ps_break, fun B1 B H1 H σ ρ o D s e k => by cases e; exact k σ H1 H (.refl _) s⟩
theorem ds_cont : DS X (.Continue pos) sCont := ⟨_, ps_continue, fun B1 B H1 H σ ρ o D s e k => by cases e; exact k σ H1 H (.refl _) s⟩
theorem ds_pass : DS X (.Pass pos) sNil := ⟨_, ps_pass, fun B1 B H1 H σ ρ o D s e k => by cases e; exact k σ H1 H (.refl _) s⟩

/-! ### targets -/
theorem dg_name (i : Nat) {x : Str} (hN : X.N.Nodup) (hi : X.N[i]? = some x := by rfl) (hx : Loc X.env.scope x := by first | exact Or.inl rfl | exact Or.inr rfl) (hf : X.fn x = true ∨ X.env.scope.names.lookup x = some .local := by first | exact .inl rfl | exact .inr rfl) : DG X (.Name x pos) (gN i) :=
  ⟨_, pg_name hN hi hx hf, fun B1 B H1 H σ ρ ρ' v d Q s dv e k => by cases e; exact k _ H1 H (.refl _) (s.set i dv)⟩
theorem dgs_nil : DGs X [] gNilD := by
  refine ⟨_, pgs_nil, fun B1 B H1 H σ ρ ρ' vs ds Q s dv e k => ?_⟩
  cases dv with
  | nil => cases e; exact ⟨rfl, k σ H1 H (.refl _) s⟩
  | cons _ _ => cases e
theorem dgs_cons {gd : PyData → En → Option En} {gr : List PyData → En → Option En} (h1 : DG X e gd) (h2 : DGs X es gr) (hs : (assignEach (e :: es) X.env).map (·.2) = assign e X.env :: (assignEach es X.env).map (·.2) := by rfl) : DGs X (e :: es) (gConsD gd gr) := by
  obtain ⟨t, p, q⟩ := h1
  obtain ⟨u, p', q'⟩ := h2
  refine ⟨_, pgs_cons p p' hs, fun B1 B H1 H σ ρ ρ' vs ds Q s dv e k => ?_⟩
  cases dv with
  | nil => cases e
  | cons d1 d2 =>
    obtain ⟨ρ1, e1, e⟩ := bind_some e
    refine ⟨_, _, rfl, q B1 B H1 H σ ρ ρ1 _ _ _ s d1 e1 fun σ1 H1' H' sm s1 => ?_⟩
    exact q' B1 B H1' H' σ1 ρ1 ρ' _ _ Q s1 (DenL.mono sm _ _ d2) e fun σ2 H2' H2 sm2 s2 => k σ2 H2' H2 (sm.trans sm2) s2
theorem dg_tup {k : Nat} {n : Nat} {gr : List PyData → En → Option En} (hc : X.calm = true) (h : DGs X es gr) (hn : (assignEach es X.env).length = n := by rfl) (hst : (assignEach es X.env).findIdx? (·.1) = none := by rfl) : DG X (.Tuple es k pos) (gT n gr) := by
  obtain ⟨t, p, q⟩ := h
  refine ⟨_, pg_tup hc p hn hst, fun B1 B H1 H σ ρ ρ' v d Q s dv e k => ?_⟩
  cases d with
  | tuple ds =>
    cases dv with
    | tup hq hl dl =>
      have e : (if ds.length = n then gr ds ρ else none) = some ρ' := e
      split at e
      · rename_i hln
        exact ⟨_, _, rfl, sqT_mono s.sok.sub hq, by rw [dl.length]; exact hln, q B1 B H1 H σ ρ ρ' _ ds Q s dl e k⟩
      · cases e
  | _ => cases e
/-- the thing in a slot -/
theorem Sok.ml {K : PySem.W.Frag} {H1 H : Hp} {σ : L2.St} {ρ : En} {i : Nat} {ds : List PyData} (s : Sok K H1 H σ ρ) (e : ρ[i]? = some (some (.ml ds))) : ∃ a vs, σ[i]? = some (some (.ref a)) ∧ H a = some (.lst vs) ∧ H1 a = none ∧ ds.length ≤ sizeLine ∧ DenL K H1 vs ds := by
  obtain ⟨v, e1, a, vs, rfl, h⟩ := s.at_ i _ e
  exact ⟨a, vs, e1, h⟩
theorem ixN_lt {n j : Nat} {k : Int} (h : ixN n k = some j) : j < n := (ixN_seq h).2.1
theorem dg_sub {k : Expr} {fk : En → Option PyData} (i : Nat) {x : Str} {px : Pos} (hk : DE X k fk) (hN : X.N[i]? = some x := by rfl) (hv : Vis X.env.scope x := by first | exact Or.inl rfl | exact Or.inr (Or.inl rfl) | exact Or.inr (Or.inr rfl)) (hd : (x == ("__debug__" : Str)) = false := by decide)
    (hcd : (x == ("__classdict__" : Str)) = false := by decide) (ha : ∀ v, assign (.Subscript (.Name x px) k pos) X.env v = (do
      let ov ← holding [v] (eval (.Name x px) X.env)
      let iv ← holding [v, ov] (eval k X.env)
      standAt pos
      holding [v, ov, iv] (setItem ov iv v)
      release [v, ov, iv] []) := by intro _; rfl) : DG X (.Subscript (.Name x px) k pos) (gSubM i fk) := by
  obtain ⟨t, p, q⟩ := hk
  refine ⟨_, pg_sub (pe_var hN hv hd hcd) p set_list ha, fun B1 B H1 H σ ρ ρ' v d Q s dv e k => ?_⟩
  obtain ⟨kk, ek, e⟩ := bind_some e
  unfold gSubK at e
  split at e
  · rename_i n ds em
    obtain ⟨j, ej, rfl⟩ := map_some e
    obtain ⟨A, vs, eσ, hA, nA, hl, dl⟩ := s.sok.ml em
    refine ⟨_, eσ, ?_⟩
    refine q σ H1 H ρ _ _ s.sok ek fun w H1' H' x dw => ?_
    cases dw
    obtain ⟨nA', hA'⟩ := x.fr A _ hA nA
    have dl' := DenL.mono x.st _ _ dl
    refine ⟨A, vs, n, j, rfl, rfl, hA', by rw [dl.length]; exact ej, ?_⟩
    refine k σ H1' _ x.st ((s.ext x).mutate em trivial eσ nA' (fun b h => by cases h; rfl) ⟨A, vs.set j v, rfl, upd_same, nA', by rw [List.length_set]; exact hl, ?_⟩)
    exact DenL.set (Den.mono x.st _ _ dv) j dl'
  · cases e

/-! ### assignments -/
theorem ds_asg {gd : PyData → En → Option En} (he : DE X e f) (hg : DG X tg gd) (hs : swapsWithSole [tg] e pos.line X.env = pure false := by rfl) (hw : swappedStores [tg] e X.env = pure none := by rfl)
    (h1 : (assignEach [tg] X.env).map (·.2) = [assign tg X.env] := by rfl) : DS X (.Assign [tg] e pos) (sAsg f gd) := by
  obtain ⟨t, p, q⟩ := he
  obtain ⟨u, p', q'⟩ := hg
  refine ⟨_, ps_asg p p' hs hw h1, fun B1 B H1 H σ ρ o D s e k => ?_⟩
  obtain ⟨d, e1, e⟩ := bind_some e
  obtain ⟨ρ', e2, rfl⟩ := map_some e
  refine q σ H1 H ρ d _ s.sok e1 fun v H1' H' x dv => ?_
  exact q' B1 B H1' H' σ ρ ρ' v d _ (s.ext x) dv e2 fun σ' H2' H2 sm s' => k σ' H2' H2 (x.st.trans sm) s'
theorem ds_set (i : Nat) {x : Str} {pos' : Pos} (hN : X.N.Nodup) (he : DE X e f) (hi : X.N[i]? = some x := by rfl) (hx : Loc X.env.scope x := by first | exact Or.inl rfl | exact Or.inr rfl) (hs : swapsWith e (some (.Name x pos')) pos.line X.env = pure false := by rfl) (hf : X.fn x = true ∨ X.env.scope.names.lookup x = some .local := by first | exact .inl rfl | exact .inr rfl) :
    DS X (.Assign [.Name x pos'] e pos) (sAsg f (gN i)) := by
  obtain ⟨t, p, q⟩ := he
  refine ⟨_, ps_set hN hi hx p hs hf, fun B1 B H1 H σ ρ o D s e k => ?_⟩
  obtain ⟨d, e1, e⟩ := bind_some e
  cases e
  exact q σ H1 H ρ d _ s.sok e1 fun v H1' H' x dv => k _ H1' H' x.st ((s.ext x).set i dv)
/-- a new list that the def will change -/
theorem ds_setL (i : Nat) {x : Str} {pos' : Pos} (hN : X.N.Nodup) (he : DL X e fs) (hi : X.N[i]? = some x := by rfl) (hx : Loc X.env.scope x := by first | exact Or.inl rfl | exact Or.inr rfl) (hs : swapsWith e (some (.Name x pos')) pos.line X.env = pure false := by rfl) (hf : X.fn x = true ∨ X.env.scope.names.lookup x = some .local := by first | exact .inl rfl | exact .inr rfl) :
    DS X (.Assign [.Name x pos'] e pos) (sAsgL i fs) := by
  obtain ⟨t, p, q⟩ := he
  refine ⟨_, ps_set hN hi hx p hs hf, fun B1 B H1 H σ ρ o D s e k => ?_⟩
  obtain ⟨ds, e1, rfl⟩ := map_some e
  exact q σ H1 H ρ ds _ s.sok e1 fun a vs H1' H' x n e' n' l dl => k _ H1' H' x.st (s.setM i x (fun b h => by cases h; exact n) ⟨a, vs, rfl, e', n', l, dl⟩)
def sPar (i j : Nat) (f g : En → Option PyData) : En → Option Out := fun ρ => (f ρ).bind fun d => (g ρ).map fun e => .nx ((ρ.set i (some (.im d))).set j (some (.im e)))
/-- a, b = x, y with plain local names -/
theorem ds_par (i j : Nat) {x y : Str} {px py pt : Pos} {kt k2 pt2} (hc : X.calm = true) (hN : X.N.Nodup) (ha : DE X a fa) (hb : DE X b fb) (hi : X.N[i]? = some x := by rfl) (hj : X.N[j]? = some y := by rfl) (hij : i ≠ j := by decide)
    (hx : X.env.scope.names.lookup x = some .local := by rfl) (hy : X.env.scope.names.lookup y = some .local := by rfl) (hse : starEach (a :: [b]) X.env = (false, eval a X.env) :: starEach [b] X.env := by rfl) (hse2 : starEach (b :: []) X.env = (false, eval b X.env) :: starEach [] X.env := by rfl)
    (hw : swappedStores [.Tuple [.Name x px, .Name y py] kt pt] (.Tuple [a, b] k2 pt2) X.env = pure (some [x, y]) := by rfl)
    (hs : swapsWithSole [.Tuple [.Name x px, .Name y py] kt pt] (.Tuple [a, b] k2 pt2) pos.line X.env = pure false := by rfl) :
    DS X (.Assign [.Tuple [.Name x px, .Name y py] kt pt] (.Tuple [a, b] k2 pt2) pos) (sPar i j fa fb) := by
  obtain ⟨ta, pa, qa⟩ := ha
  obtain ⟨tb, pb, qb⟩ := hb
  refine ⟨_, ps_par hc hN hi hj hij hx hy (pa_cons pa (pa_cons pb pa_nil hse2) hse) hw hs, fun B1 B H1 H σ ρ o D s e k => ?_⟩
  obtain ⟨d1, e1, e⟩ := bind_some e
  obtain ⟨d2, e2, rfl⟩ := map_some e
  refine qa σ H1 H ρ d1 _ s.sok e1 fun v H1' H' x1 q1 => qb σ H1' H' ρ d2 _ (s.sok.ext x1) e2 fun w H2' H2 x2 q2 => ⟨v, w, rfl, ?_⟩
  exact k _ H2' H2 (x1.st.trans x2.st) ((((s.ext x1).ext x2).set i (Den.mono x2.st _ _ q1)).set j q2)
theorem ds_augI {op : Operator} {gi : Int → Int → Int} (i : Nat) {x : Str} {pos' : Pos} (hN : X.N.Nodup) (he : DE X e f) (ho : PIp X op (ipI gi)) (hi : X.N[i]? = some x := by rfl) (hx : Loc X.env.scope x := by first | exact Or.inl rfl | exact Or.inr rfl) (hf : X.fn x = true ∨ X.env.scope.names.lookup x = some .local := by first | exact .inl rfl | exact .inr rfl) :
    DS X (.AugAssign (.Name x pos') op e pos) (sAug i gi f) := by
  obtain ⟨t, p, q⟩ := he
  refine ⟨_, ps_aug hN hi hx p ho hf, fun B1 B H1 H σ ρ o D s e k => ?_⟩
  unfold sAug at e
  split at e
  · rename_i n em
    obtain ⟨d, e1, e⟩ := bind_some e
    split at e
    · rename_i m
      cases e
      obtain ⟨v, eσ, dv⟩ := s.sok.at_ i _ em
      cases dv
      refine ⟨_, eσ, q σ H1 H ρ _ _ s.sok e1 fun w H1' H' x dw => ?_⟩
      cases dw
      exact ⟨n, m, rfl, rfl, k _ H1' H' x.st ((s.ext x).set i (.int _))⟩
    · cases e
  · cases e
/-- xs.append(e) -/
theorem ds_app (i : Nat) {x : Str} {px apos cpos : Pos} (he : DE X e f) (hN : X.N[i]? = some x := by rfl) (hv : Vis X.env.scope x := by first | exact Or.inl rfl | exact Or.inr (Or.inl rfl) | exact Or.inr (Or.inr rfl)) (hd : (x == ("__debug__" : Str)) = false := by decide)
    (hcd : (x == ("__classdict__" : Str)) = false := by decide) (hse : starEach (e :: []) X.env = (false, eval e X.env) :: starEach [] X.env := by rfl) (hs : swapsWith (.Call (.Attribute (.Name x px) "append" apos) [e] [] cpos) none pos.line X.env = pure false := by rfl) (pe : ∀ {te : TE}, PE X e te → PE X (.Call (.Attribute (.Name x px) "append" apos) [e] [] cpos) (tBM X.K "list" rAppend (tVar i) (tCons te tNil)) := by exact fun he => pe_bm PySem.F.plainAttrs_list PySem.F.slot_list_append PySem.F.type_list_append mt_append (pv _) (pa_cons he pa_nil)) :
    DS X (.Expr (.Call (.Attribute (.Name x px) "append" apos) [e] [] cpos) pos) (sApp i f) := by
  obtain ⟨t, p, q⟩ := he
  refine ⟨_, ps_expr (pe p) hs, fun B1 B H1 H σ ρ o D s e k => ?_⟩
  obtain ⟨d, e1, e⟩ := bind_some e
  obtain ⟨ρ', e, rfl⟩ := map_some e
  unfold appK at e
  split at e
  · rename_i ds em
    split at e
    · rename_i hlt
      cases e
      obtain ⟨A, vs, eσ, hA, nA, hl, dl⟩ := s.sok.ml em
      refine ⟨_, eσ, .inl ⟨rfl, _, .of hA⟩, ?_⟩
      refine q σ H1 H ρ _ _ s.sok e1 fun v H1' H' x dv => ?_
      obtain ⟨nA', hA'⟩ := x.fr A _ hA nA
      refine ⟨A, vs, v, rfl, rfl, hA', by rw [dl.length]; exact hlt, ?_⟩
      refine k σ H1' _ x.st ((s.ext x).mutate em trivial eσ nA' (fun b h => by cases h; rfl) ⟨A, vs ++ [v], rfl, upd_same, nA', by rw [List.length_append]; exact hlt, ?_⟩)
      exact (DenL.mono x.st _ _ dl).append (.one dv)
    · cases e
  · cases e

/-! ### what is walked -/
def Walks (K : PySem.W.Frag) (J : It) (H1 : Hp) (ds : List PyData) : Prop := ∀ (H1' H' : Hp), Same H1 H1' → Same H1' H' → ∀ i : Nat,
  (∀ d, ds[i]? = some d → J.go i H' ∧ ∀ x H'', J.yld i H' x H'' → ∃ H1'', Ext H1' H' H1'' H'' ∧ Den K H1'' x d) ∧ (ds.length ≤ i → J.stop i H')
def DI (X : Cx) (tg iter : Expr) (f : En → Option (List PyData)) : Prop :=
  ∃ wi, PI X tg iter wi ∧ ∀ (σ : L2.St) (H1 H : Hp) (ρ : En) (ds : List PyData) (R : It → Hp → Prop), Sok X.K H1 H σ ρ → f ρ = some ds → (∀ J H1' H', Ext H1 H H1' H' → ds.length ≤ sizeLine → Walks X.K J H1' ds → R J H') → wi σ H R
def asSeq : PyData → Option (List PyData)
  | .list ds => some ds
  | .tuple ds => some ds
  | _ => none
def iSq (f : En → Option PyData) : En → Option (List PyData) := fun ρ => (f ρ).bind asSeq
theorem pi_seq {l : Expr} {tl : TE} (hl : PE X l tl) : PI X tg l (fun σ H R => tl σ H fun x H1 => ∃ a, x = .ref a ∧ ((∃ xs, SqL X.K H1 a xs ∧ R (Itl X.K a) H1) ∨ ∃ xs, SqT X.K H1 a xs ∧ R (Itt X.K a) H1)) := by
  refine ⟨fun pins s σ H R I h => ?_⟩
  refine thn (hl.run pins s σ H _ I h) fun v s1 ⟨x, H1, I1, r1, q1⟩ => ?_
  obtain ⟨a, e, q⟩ := q1
  subst e
  cases r1
  rcases q with ⟨xs, hq, q⟩ | ⟨xs, hq, q⟩
  · obtain ⟨its, rv, p, hz⟩ := I1.list hq
    refine wpAny_pyIter_list p.isList ?_
    refine ⟨s1.heap.objs.size, [s1.heap.objs.size], _, _, H1, rfl, I1.kept (t' := s1.toks) fun b o e => Heap.get?_push_of_some _ e, turn_list a _, ⟨_, Heap.get?_push_size _ rfl, rfl, rfl⟩, fun b hb => ?_, q⟩
    have e : b = s1.heap.objs.size := by simpa using hb
    subst e
    exact I1.fpOk (Nat.le_refl _) (I1.hok.fresh (Nat.le_refl _))
  · obtain ⟨its, rv, p, hz⟩ := I1.tuple hq
    refine wpAny_pyIter_tuple (show s1.heap.IsTuple a its.toArray from p) ?_
    refine ⟨s1.heap.objs.size, [s1.heap.objs.size], _, _, H1, rfl, I1.kept (t' := s1.toks) fun b o e => Heap.get?_push_of_some _ e, turn_tuple a _, ⟨_, Heap.get?_push_size _ rfl, rfl, rfl⟩, fun b hb => ?_, q⟩
    have e : b = s1.heap.objs.size := by simpa using hb
    subst e
    exact I1.fpOk (Nat.le_refl _) (I1.hok.fresh (Nat.le_refl _))
theorem walks_list {K : PySem.W.Frag} {H1 : Hp} {a : Addr} {xs : List V} {ds : List PyData} (h : SqL K H1 a xs) (dl : DenL K H1 xs ds) : Walks K (Itl K a) H1 ds := fun H1' H' s1 s2 i => by
  refine ⟨fun d e => ?_, fun l => ⟨xs, (s1.trans s2).seq h, by rw [dl.length]; exact l⟩⟩
  obtain ⟨v, e1, dv⟩ := dl.get e
  refine ⟨⟨xs, v, (s1.trans s2).seq h, e1⟩, fun x H'' y => ?_⟩
  obtain ⟨rfl, y⟩ := y
  have e2 := y xs ((s1.trans s2).seq h)
  rw [e1] at e2
  cases e2
  exact ⟨H1', .refl s2, Den.mono s1 _ _ dv⟩
theorem walks_tup {K : PySem.W.Frag} {H1 : Hp} {a : Addr} {xs : List V} {ds : List PyData} (h : SqT K H1 a xs) (dl : DenL K H1 xs ds) : Walks K (Itt K a) H1 ds := fun H1' H' s1 s2 i => by
  refine ⟨fun d e => ?_, fun l => ⟨xs, sqT_mono (s1.trans s2) h, by rw [dl.length]; exact l⟩⟩
  obtain ⟨v, e1, dv⟩ := dl.get e
  refine ⟨⟨xs, v, sqT_mono (s1.trans s2) h, e1⟩, fun x H'' y => ?_⟩
  obtain ⟨rfl, y⟩ := y
  have e2 := y xs (sqT_mono (s1.trans s2) h)
  rw [e1] at e2
  cases e2
  exact ⟨H1', .refl s2, Den.mono s1 _ _ dv⟩
theorem di_seq (h : DE X e f) : DI X tg e (iSq f) := by
  obtain ⟨t, p, q⟩ := h
  refine ⟨_, pi_seq p, fun σ H1 H ρ ds R s e k => ?_⟩
  obtain ⟨d, e1, e⟩ := bind_some e
  refine q σ H1 H ρ d _ s e1 fun v H1' H' x dv => ?_
  cases d with
  | list es =>
    cases e
    cases dv with
    | lst hs hl dl => exact ⟨_, rfl, .inl ⟨_, x.sub.seq hs, k _ H1' H' x hl (walks_list hs dl)⟩⟩
  | tuple es =>
    cases e
    cases dv with
    | tup hs hl dl => exact ⟨_, rfl, .inr ⟨_, sqT_mono x.sub hs, k _ H1' H' x hl (walks_tup hs dl)⟩⟩
  | _ => cases e
def rng (lo : Int) (n : Nat) : List PyData := (List.range n).map fun i => .int (lo + (i : Nat))
theorem rng_len (lo : Int) (n : Nat) : (rng lo n).length = n := by unfold rng; rw [List.length_map, List.length_range]
theorem walks_rng {K : PySem.W.Frag} {H1 : Hp} (lo : Int) (n : Nat) : Walks K (Itr lo n) H1 (rng lo n) := fun H1' H' s1 s2 i => by
  refine ⟨fun d e => ?_, fun l => by rw [rng_len] at l; exact l⟩
  have hl : i < n := by
    have := (List.getElem?_eq_some_iff.mp e).1
    rwa [rng_len] at this
  unfold rng at e
  rw [List.getElem?_map, List.getElem?_range hl] at e
  cases e
  refine ⟨hl, fun x H'' y => ?_⟩
  obtain ⟨rfl, rfl⟩ := y
  exact ⟨H1', .refl s2, .int _⟩
def rg1 (ds : List PyData) : Option (List PyData) := match ds with
  | [.int j] => if j.natAbs ≤ 16777216 then some (rng 0 j.toNat) else none
  | _ => none
def rg2 (ds : List PyData) : Option (List PyData) := match ds with
  | [.int i, .int j] => if i.natAbs ≤ 4194304 ∧ j.natAbs ≤ 4194304 then some (rng i (j - i).toNat) else none
  | _ => none
theorem di_range1 (ha : DA X [a] fs) (hg : Gl X "range") (hm : X.mg "range" = none) (hs : starEach [a] X.env = [(false, eval a X.env)] := by rfl) : DI X tg (.Call (.Name "range" p) [a] [] pos) (eNL rg1 fs) := by
  obtain ⟨t, pt, q⟩ := ha
  refine ⟨_, pi_range1 hg hm pt hs, fun σ H1 H ρ ds R s e k => ?_⟩
  obtain ⟨es, e1, e⟩ := bind_some e
  refine q σ H1 H ρ es _ s e1 fun vs H1' H' x dv => ?_
  unfold rg1 at e
  split at e
  · rename_i j
    split at e
    · rename_i hj
      cases e
      cases dv with
      | cons d1 d2 =>
        cases d1
        cases d2
        refine ⟨j, rfl, by omega, by omega, k _ H1' H' x (by rw [rng_len, sizeLine_eq]; omega) (walks_rng 0 _)⟩
    · cases e
  · cases e
theorem di_range2 (ha : DA X [a, b] fs) (hg : Gl X "range") (hm : X.mg "range" = none) (hs : starEach [a, b] X.env = [(false, eval a X.env), (false, eval b X.env)] := by rfl) (hs2 : starEach [b] X.env = [(false, eval b X.env)] := by rfl) : DI X tg (.Call (.Name "range" p) [a, b] [] pos) (eNL rg2 fs) := by
  obtain ⟨t, pt, q⟩ := ha
  refine ⟨_, pi_range2 hg hm pt hs hs2, fun σ H1 H ρ ds R s e k => ?_⟩
  obtain ⟨es, e1, e⟩ := bind_some e
  refine q σ H1 H ρ es _ s e1 fun vs H1' H' x dv => ?_
  unfold rg2 at e
  split at e
  · rename_i i j
    split at e
    · rename_i hj
      cases e
      cases dv with
      | cons d1 d2 =>
        cases d1
        cases d2 with
        | cons d3 d4 =>
          cases d3
          cases d4
          refine ⟨i, j, rfl, ⟨by omega, by omega, by omega, by omega⟩, k _ H1' H' x (by rw [rng_len, sizeLine_eq]; omega) (walks_rng i _)⟩
    · cases e
  · cases e

/-! ### loops -/
theorem ds_for {iter : Expr} {body : List Stmt} {fi : En → Option (List PyData)} {gd : PyData → En → Option En} (hp : PassesOwn (model X.prog X.w) X.A X.env X.xe) (hc : X.calm = true) (hi : DI X tg iter fi) (hg : DG X tg gd) (hb : DSs X body g)
    (hs : ∀ x, foldedSetIterable iter X.env x = pure x := by intro _; rfl) : DS X (.For tg iter body [] pos) (sFor fi gd g) := by
  obtain ⟨wi, pi, qi⟩ := hi
  obtain ⟨tg', pg, qg⟩ := hg
  obtain ⟨tb, pb, qb⟩ := hb
  refine ⟨_, ps_for hp hc pi pg pb hs, fun B1 B H1 H σ ρ o D s e k => ?_⟩
  obtain ⟨ds, e1, e⟩ := bind_some e
  refine qi σ H1 H ρ ds _ s.sok e1 fun J Hi H' x hl wk => ?_
  refine ⟨fun i m σ H => m = ds.length - i ∧ ∃ H1' ρ', Same Hi H1' ∧ Sst X.K B1 B H1' H σ ρ' ∧ forD gd g (ds.drop i) ρ' = some o, ⟨_, rfl, Hi, ρ, .refl _, s.ext x, by rw [List.drop_zero]; exact e⟩, ?_⟩
  rintro i m σ H ⟨rfl, H1', ρ', sm, s', e'⟩
  obtain ⟨w1, w2⟩ := wk H1' H sm s'.sok.sub i
  by_cases hi : i < ds.length
  · right
    rw [List.drop_eq_getElem_cons hi] at e'
    obtain ⟨go, yl⟩ := w1 ds[i] (List.getElem?_eq_getElem hi)
    obtain ⟨ρ1, e2, e'⟩ := bind_some e'
    obtain ⟨o1, e3, e'⟩ := bind_some e'
    refine ⟨go, fun σ2 H2 => ∃ H1'' ρ'', Same Hi H1'' ∧ Sst X.K B1 B H1'' H2 σ2 ρ'' ∧ forD gd g (ds.drop (i + 1)) ρ'' = some o, fun σ2 H2 ⟨H1'', ρ'', a1, a2, a3⟩ => ⟨ds.length - (i + 1), by omega, rfl, H1'', ρ'', a1, a2, a3⟩, fun v H2 y => ?_⟩
    obtain ⟨H1'', x2, dv⟩ := yl v H2 y
    refine qg B1 B H1'' H2 σ ρ' ρ1 v _ _ (s'.ext x2) dv e2 fun σ3 H13 H3 sm3 s3 => ?_
    refine qb B1 B H13 H3 σ3 ρ1 o1 _ s3 e3 ?_
    have sm4 : Same Hi H13 := (sm.trans x2.st).trans sm3
    cases o1 with
    | nx ρ2 => exact fun σ4 H14 H4 sm5 s4 => ⟨H14, ρ2, sm4.trans sm5, s4, e'⟩
    | ct ρ2 => exact fun σ4 H14 H4 sm5 s4 => ⟨H14, ρ2, sm4.trans sm5, s4, e'⟩
    | bk ρ2 =>
      cases e'
      exact fun σ4 H14 H4 sm5 s4 => k σ4 H14 H4 ((x.st.trans sm4).trans sm5) s4
    | rt d =>
      cases e'
      exact k
  · left
    rw [List.drop_eq_nil_of_le (by omega)] at e'
    cases e'
    exact ⟨w2 (by omega), k σ H1' H (x.st.trans sm) s'⟩
theorem ds_while {body : List Stmt} (n : Nat) (hp : PassesOwn (model X.prog X.w) X.A X.env X.xe) (hc : DT X c tf) (hb : DSs X body g) : DS X (.While c body [] pos) (whileD tf g n) := by
  obtain ⟨tc, pc, qc⟩ := hc
  obtain ⟨tb, pb, qb⟩ := hb
  refine ⟨_, ps_while hp pc pb, fun B1 B H1 H σ ρ o D s e k => ?_⟩
  refine ⟨fun m σ H => ∃ H1' ρ', Same H1 H1' ∧ Sst X.K B1 B H1' H σ ρ' ∧ whileD tf g m ρ' = some o, ⟨n, H1, ρ, .refl _, s, e⟩, ?_⟩
  rintro m σ H ⟨H1', ρ', sm, s', e'⟩
  cases m with
  | zero => cases e'
  | succ m =>
    obtain ⟨b, e1, e'⟩ := bind_some e'
    refine qc σ H1' H ρ' b _ s'.sok e1 fun H1'' H' x => ?_
    cases b with
    | false =>
      cases e'
      exact k σ H1'' H' (sm.trans x.st) (s'.ext x)
    | true =>
      obtain ⟨o1, e3, e'⟩ := bind_some e'
      refine ⟨fun σ2 H2 => ∃ H1' ρ', Same H1 H1' ∧ Sst X.K B1 B H1' H2 σ2 ρ' ∧ whileD tf g m ρ' = some o, fun σ2 H2 z => ⟨m, Nat.lt_succ_self _, z⟩, ?_⟩
      refine qb B1 B H1'' H' σ ρ' o1 _ (s'.ext x) e3 ?_
      have sm4 : Same H1 H1'' := sm.trans x.st
      cases o1 with
      | nx ρ2 => exact fun σ4 H14 H4 sm5 s4 => ⟨H14, ρ2, sm4.trans sm5, s4, e'⟩
      | ct ρ2 => exact fun σ4 H14 H4 sm5 s4 => ⟨H14, ρ2, sm4.trans sm5, s4, e'⟩
      | bk ρ2 =>
        cases e'
        exact fun σ4 H14 H4 sm5 s4 => k σ4 H14 H4 (sm4.trans sm5) s4
      | rt d =>
        cases e'
        exact k
end
end Dv

namespace Dv
open PySem PySem.Spec PyProof.Rows L2

/-! ### several slots at once -/
def setAll {α : Type} : List (Option α) → List Nat → List α → List (Option α)
  | σ, i :: is, v :: vs => setAll (σ.set i (some v)) is vs
  | σ, _, _ => σ
def setAllW (ρ : En) (is : List Nat) (ds : List PyData) : En := setAll ρ is (ds.map W.im)
theorem Sok.setAll {K : PySem.W.Frag} {H1 H : Hp} : ∀ {is : List Nat} {vs : List V} {ds : List PyData} {σ : L2.St} {ρ : En}, Sok K H1 H σ ρ → DenL K H1 vs ds → Sok K H1 H (Dv.setAll σ is vs) (setAllW ρ is ds)
  | [], _, _, _, _, s, _ => by unfold setAllW Dv.setAll; exact s
  | i :: is, _, [], _, _, s, h => by cases h; exact s
  | i :: is, _, d :: ds, σ, ρ, s, h => by
    cases h with
    | @cons v vs _ _ a b => exact Sok.setAll (σ := σ.set i (some v)) (ρ := ρ.set i (some (.im d))) (Sok.set s i a) b
def wipeE (ρ : En) : List Nat → En
  | [] => ρ
  | v :: vs => (wipeE ρ vs).set v none
theorem Sok.setN {K : PySem.W.Frag} {H1 H : Hp} {σ : L2.St} {ρ : En} (s : Sok K H1 H σ ρ) (i : Nat) : Sok K H1 H (σ.set i none) (ρ.set i none) := by
  have cs : ∀ {j : Nat} {u}, (ρ.set i none)[j]? = some (some u) → i ≠ j ∧ ρ[j]? = some (some u) := fun {j u} e => by
    by_cases hj : i = j
    · subst hj
      have hl : i < ρ.length := by
        have := (List.getElem?_eq_some_iff.mp e).1
        rwa [List.length_set] at this
      rw [List.getElem?_set_self hl] at e
      cases e
    · rw [List.getElem?_set_ne hj] at e
      exact ⟨hj, e⟩
  refine ⟨s.sub, by rw [List.length_set, List.length_set]; exact s.len, fun j u e => ?_, fun j l u u' v1 v2 b e1 e2 f1 f2 m1 m2 => ?_⟩
  · obtain ⟨hj, e⟩ := cs e
    rw [List.getElem?_set_ne hj]
    exact s.at_ j u e
  · obtain ⟨hj, e1⟩ := cs e1
    obtain ⟨hk, e2⟩ := cs e2
    rw [List.getElem?_set_ne hj] at f1
    rw [List.getElem?_set_ne hk] at f2
    exact s.inj j l u u' v1 v2 b e1 e2 f1 f2 m1 m2
theorem Sok.wipe {K : PySem.W.Frag} {H1 H : Hp} {σ : L2.St} {ρ : En} (s : Sok K H1 H σ ρ) : ∀ vs : List Nat, Sok K H1 H (wipe σ vs) (wipeE ρ vs)
  | [] => s
  | v :: vs => (Sok.wipe s vs).setN v
theorem wipe_in {σ : L2.St} {i : Nat} : ∀ {vs : List Nat}, i ∈ vs → (wipe σ vs)[i]? = if i < σ.length then some none else none
  | [], h => by simp at h
  | v :: vs, h => by
    unfold wipe
    by_cases hv : v = i
    · subst hv
      by_cases hl : v < σ.length
      · rw [List.getElem?_set_self (by rw [wipe_length]; exact hl), if_pos hl]
      · rw [if_neg hl, List.getElem?_eq_none (by rw [List.length_set, wipe_length]; omega)]
    · rw [List.getElem?_set_ne hv]
      rcases List.mem_cons.mp h with e | h
      · exact absurd e.symm hv
      · exact wipe_in h
theorem wipe_set {σ : L2.St} {i : Nat} {x : Option V} {vs : List Nat} (h : i ∈ vs) : wipe (σ.set i x) vs = wipe σ vs := by
  refine List.ext_getElem? fun j => ?_
  by_cases hj : j ∈ vs
  · rw [wipe_in hj, wipe_in hj, List.length_set]
  · rw [wipe_out hj, wipe_out hj, List.getElem?_set_ne (fun e => hj (by rw [← e]; exact h))]
theorem wipe_setAll {ow : List Nat} : ∀ {is : List Nat} {vs : List V} {σ : L2.St}, (∀ i ∈ is, i ∈ ow) → wipe (Dv.setAll σ is vs) ow = wipe σ ow
  | [], _, _, _ => by unfold Dv.setAll; rfl
  | i :: is, [], _, _ => rfl
  | i :: is, v :: vs, σ, h => by
    show wipe (Dv.setAll (σ.set i (some v)) is vs) ow = _
    rw [wipe_setAll fun j hj => h j (List.mem_cons_of_mem _ hj), wipe_set (h i List.mem_cons_self)]
theorem wipe_wipe {σ : L2.St} (vs : List Nat) : wipe (wipe σ vs) vs = wipe σ vs := by
  refine List.ext_getElem? fun j => ?_
  by_cases hj : j ∈ vs
  · rw [wipe_in hj, wipe_in hj, wipe_length]
  · rw [wipe_out hj, wipe_out hj]

/-! ### a comprehension's target, tests -/
def DGc (X : Cx) (tg : Expr) (is : List Nat) (spl : PyData → Option (List PyData)) : Prop :=
  ∃ t, PG X tg t ∧ ∀ (H1 H : Hp) (σ : L2.St) (v : V) (d : PyData) (ds : List PyData) (Q : L2.St → Hp → Prop), Same H1 H → Den X.K H1 v d → spl d = some ds → (∀ vs, DenL X.K H1 vs ds → Q (setAll σ is vs) H) → t v σ H Q
def DGcs (X : Cx) (tgs : List Expr) (is : List Nat) : Prop :=
  ∃ t, PGs X tgs t ∧ ∀ (H1 H : Hp) (σ : L2.St) (vs : List V) (ds : List PyData) (Q : L2.St → Hp → Prop), Same H1 H → DenL X.K H1 vs ds → ds.length = is.length → Q (setAll σ is vs) H → t vs σ H Q
def splN (d : PyData) : Option (List PyData) := some [d]
def splT (n : Nat) (d : PyData) : Option (List PyData) := match d with
  | .tuple ds => if ds.length = n then some ds else none
  | _ => none
def DTs (X : Cx) (ifs : List Expr) (f : En → Option Bool) : Prop :=
  ∃ t, PTs X ifs t ∧ ∀ (σ : L2.St) (H1 H : Hp) (ρ : En) (b : Bool) (Q : Bool → Hp → Prop), Sok X.K H1 H σ ρ → f ρ = some b → (∀ H1' H', Ext H1 H H1' H' → Q b H') → t σ H Q
def tYesD : En → Option Bool := fun _ => some true
def lcD (spl : PyData → Option (List PyData)) (is : List Nat) (ft : En → Option Bool) (fe : En → Option PyData) (ρ : En) : List PyData → Option (List PyData)
  | [] => some []
  | d :: ds => (spl d).bind fun xs => (ft (setAllW ρ is xs)).bind fun b => if b = true then (fe (setAllW ρ is xs)).bind fun y => (lcD spl is ft fe ρ ds).map fun r => y :: r else lcD spl is ft fe ρ ds
def eLc (fi : En → Option (List PyData)) (spl : PyData → Option (List PyData)) (is own : List Nat) (ft : En → Option Bool) (fe : En → Option PyData) : En → Option (List PyData) := fun ρ => (fi ρ).bind fun ds => lcD spl is ft fe (wipeE ρ own) ds

section
variable {X : Cx} {a b c e : Expr} {es : List Expr} {fa fb fc f : En → Option PyData} {fs : En → Option (List PyData)} {pos p : Pos} {x : Str} {tg : Expr} {tf : En → Option Bool}
theorem dgc_name (i : Nat) {x : Str} (hN : X.N.Nodup) (hi : X.N[i]? = some x := by rfl) (hx : Loc X.env.scope x := by first | exact Or.inl rfl | exact Or.inr rfl) (hf : X.fn x = true ∨ X.env.scope.names.lookup x = some .local := by first | exact .inl rfl | exact .inr rfl) : DGc X (.Name x pos) [i] splN :=
  ⟨_, pg_name hN hi hx hf, fun H1 H σ v d ds Q s dv e k => by cases e; exact k [v] (.one dv)⟩
theorem dgcs_nil : DGcs X [] [] := by
  refine ⟨_, pgs_nil, fun H1 H σ vs ds Q s dv e k => ?_⟩
  have : ds = [] := List.eq_nil_of_length_eq_zero e
  subst this
  cases dv
  exact ⟨rfl, k⟩
theorem dgcs_cons (i : Nat) {is : List Nat} {x : Str} (hN : X.N.Nodup) (h2 : DGcs X es is) (hi : X.N[i]? = some x := by rfl) (hx : Loc X.env.scope x := by first | exact Or.inl rfl | exact Or.inr rfl) (hf : X.fn x = true ∨ X.env.scope.names.lookup x = some .local := by first | exact .inl rfl | exact .inr rfl)
    (hs : (assignEach (.Name x pos :: es) X.env).map (·.2) = assign (.Name x pos) X.env :: (assignEach es X.env).map (·.2) := by rfl) : DGcs X (.Name x pos :: es) (i :: is) := by
  obtain ⟨t, pt, q⟩ := h2
  refine ⟨_, pgs_cons (pg_name hN hi hx hf) pt hs, fun H1 H σ vs ds Q s dv e k => ?_⟩
  cases dv with
  | nil => cases e
  | cons d1 d2 => exact ⟨_, _, rfl, q H1 H _ _ _ Q s d2 (Nat.succ.inj e) k⟩
theorem dgc_tup {k n : Nat} {is : List Nat} (hc : X.calm = true) (h : DGcs X es is) (hl : is.length = n := by rfl) (hn : (assignEach es X.env).length = n := by rfl) (hst : (assignEach es X.env).findIdx? (·.1) = none := by rfl) : DGc X (.Tuple es k pos) is (splT n) := by
  obtain ⟨t, pt, q⟩ := h
  refine ⟨_, pg_tup hc pt hn hst, fun H1 H σ v d ds Q s dv e k => ?_⟩
  cases d with
  | tuple es =>
    cases dv with
    | tup hq hz dl =>
      have e : (if es.length = n then some es else none) = some ds := e
      split at e
      · cases e
        rename_i hln
        exact ⟨_, _, rfl, sqT_mono s hq, by rw [dl.length]; exact hln, q H1 H σ _ _ Q s dl (hln.trans hl.symm) (k _ dl)⟩
      · cases e
  | _ => cases e
theorem dts_nil : DTs X [] tYesD := ⟨_, pts_nil, fun σ H1 H ρ b Q s e k => by cases e; exact k H1 H (.refl s.sub)⟩
theorem dts_one (h : DT X e tf) : DTs X [e] tf := let ⟨t, p, q⟩ := h; ⟨_, pts_one p, q⟩
def rdTs (K : PySem.W.Frag) (f : En → Option Bool) : TT := fun σ H Q => ∃ (H1 : Hp) (ρ : En) (d : Bool), Sok K H1 H σ ρ ∧ f ρ = some d ∧ ∀ H1' H', Ext H1 H H1' H' → Q d H'
theorem DTs.pt {es : List Expr} {f : En → Option Bool} (h : DTs X es f) : PTs X es (rdTs X.K f) := by
  obtain ⟨t, p, q⟩ := h
  exact ⟨fun pins s σ H Q I ⟨H1, ρ, d, sk, hf, k⟩ => p.run pins s σ H Q I (q σ H1 H ρ d Q sk hf k)⟩
def rdG (K : PySem.W.Frag) (is : List Nat) (spl : PyData → Option (List PyData)) : TG := fun v σ H Q => ∃ (H1 : Hp) (d : PyData) (ds : List PyData), Same H1 H ∧ Den K H1 v d ∧ spl d = some ds ∧ ∀ vs, DenL K H1 vs ds → Q (setAll σ is vs) H
theorem DGc.pg {is : List Nat} {spl : PyData → Option (List PyData)} (h : DGc X tg is spl) : PG X tg (rdG X.K is spl) := by
  obtain ⟨t, p, q⟩ := h
  exact ⟨fun pins s σ H v u Q I r ⟨H1, d, ds, sm, dv, e, k⟩ => p.run pins s σ H v u Q I r (q H1 H σ v d ds Q sm dv e k)⟩

/-- a comprehension's reading -/
theorem lc_read {K : PySem.W.Frag} {wi : TI} {fi : En → Option (List PyData)} {spl : PyData → Option (List PyData)} {is own : List Nat} {ft : En → Option Bool} {fe : En → Option PyData}
    (qi : ∀ (σ : L2.St) (H1 H : Hp) (ρ : En) (ds : List PyData) (R : It → Hp → Prop), Sok K H1 H σ ρ → fi ρ = some ds → (∀ J H1' H', Ext H1 H H1' H' → ds.length ≤ sizeLine → Walks K J H1' ds → R J H') → wi σ H R)
    (hown : ∀ i ∈ is, i ∈ own) {σ : L2.St} {H1 H : Hp} {ρ : En} {rs : List PyData} {Q : VK} (s : Sok K H1 H σ ρ) (e : eLc fi spl is own ft fe ρ = some rs)
    (k : ∀ a vs H1' H', Ext H1 H H1' H' → H a = none → H' a = some (.lst vs) → H1' a = none → rs.length ≤ sizeLine → DenL K H1' vs rs → Q (.ref a) H') : tLc wi (rdG K is spl) (rdTs K ft) (rdE K fe) own σ H Q := by
  obtain ⟨ds, e1, e⟩ := bind_some e
  refine qi σ H1 H ρ ds _ s e1 fun J Hi H' x hl wk => fun D nD => ?_
  have nD0 : H D = none := (x.same s.sub).free nD
  refine ⟨fun i m H2 => m = ds.length - i ∧ ∃ H12 acc accd rest, H2 D = some (.lst acc) ∧ H12 D = none ∧ Same Hi H12 ∧ Ext H1 H H12 H2 ∧ DenL K H12 acc accd ∧ accd.length ≤ i ∧ i ≤ ds.length ∧ lcD spl is ft fe (wipeE ρ own) (ds.drop i) = some rest ∧ accd ++ rest = rs, ⟨_, rfl, Hi, [], [], rs, upd_same, x.sub.free nD, .refl _, x.trans (.newMut x.sub nD), .nil, Nat.le_refl _, Nat.zero_le _, by rw [List.drop_zero]; exact e, rfl⟩, ?_⟩
  rintro i m H2 ⟨rfl, H12, acc, accd, rest, hD, hD1, sm, x2, dl, hli, hile, e2, e3⟩
  have s2 : Sok K H12 H2 σ ρ := s.ext x2
  obtain ⟨w1, w2⟩ := wk H12 H2 sm x2.sub i
  by_cases hi : i < ds.length
  · right
    rw [List.drop_eq_getElem_cons hi] at e2
    obtain ⟨go, yl⟩ := w1 ds[i] (List.getElem?_eq_getElem hi)
    obtain ⟨xs, e4, e2⟩ := bind_some e2
    obtain ⟨bb, e5, e2⟩ := bind_some e2
    refine ⟨go, fun H3 => ∃ H13 acc accd rest, H3 D = some (.lst acc) ∧ H13 D = none ∧ Same Hi H13 ∧ Ext H1 H H13 H3 ∧ DenL K H13 acc accd ∧ accd.length ≤ i + 1 ∧ i + 1 ≤ ds.length ∧ lcD spl is ft fe (wipeE ρ own) (ds.drop (i + 1)) = some rest ∧ accd ++ rest = rs, fun H3 z => ⟨ds.length - (i + 1), by omega, rfl, z⟩, fun v H3 y => ?_⟩
    obtain ⟨H13, x3, dv⟩ := yl v H3 y
    refine ⟨H13, ds[i], xs, x3.sub, dv, e4, fun vs dvs => ⟨by rw [wipe_setAll hown, wipe_wipe], ?_⟩⟩
    have s3 : Sok K H13 H3 (setAll (wipe σ own) is vs) (setAllW (wipeE ρ own) is xs) := ((s2.ext x3).wipe own).setAll dvs
    obtain ⟨n3, h3⟩ := x3.fr D _ hD hD1
    refine ⟨H13, _, bb, s3, e5, fun H14 H4 x4 => ?_⟩
    obtain ⟨n4, h4⟩ := x4.fr D _ h3 n3
    cases bb with
    | false =>
      rw [if_neg Bool.false_ne_true]
      exact ⟨H14, acc, accd, rest, h4, n4, (sm.trans x3.st).trans x4.st, (x2.trans x3).trans x4, DenL.mono (x3.st.trans x4.st) _ _ dl, Nat.le_succ_of_le hli, hi, e2, e3⟩
    | true =>
      rw [if_pos rfl]
      rw [if_pos rfl] at e2
      obtain ⟨y, e6, e2⟩ := bind_some e2
      obtain ⟨r, e7, rfl⟩ := map_some e2
      refine ⟨H14, _, y, s3.ext x4, e6, fun w H15 H5 x5 dw => ?_⟩
      obtain ⟨n5, h5⟩ := x5.fr D _ h4 n4
      have lacc : acc.length = accd.length := dl.length
      refine ⟨acc, h5, by omega, ?_⟩
      have x6 : Ext H1 H H15 H5 := ((x2.trans x3).trans x4).trans x5
      refine ⟨H15, acc ++ [w], accd ++ [y], r, upd_same, n5, ((sm.trans x3.st).trans x4.st).trans x5.st, ⟨x6.st, fun b o z => ?_, fun b o z z1 => ?_⟩, (DenL.mono ((x3.st.trans x4.st).trans x5.st) _ _ dl).append (.one dw), by rw [List.length_append]; exact Nat.add_le_add_right hli 1, hi, e7, ?_⟩
      · rw [upd_ne (ne_of_none z n5)]; exact x6.sub _ _ z
      · obtain ⟨q1, q2⟩ := x6.fr b o z z1
        rw [upd_ne (ne_of_none z nD0)]
        exact ⟨q1, q2⟩
      · rw [← e3, List.append_assoc]; rfl
  · left
    have hie : i = ds.length := by omega
    rw [List.drop_eq_nil_of_le (by omega)] at e2
    cases e2
    rw [List.append_nil] at e3
    subst e3
    exact ⟨w2 (by omega), k D acc H12 H2 x2 nD0 hD hD1 (by omega) dl⟩

theorem dl_lc {elt iter : Expr} {ifs : List Expr} {scope : Scope} {own : List (Str × Nat)} {fi : En → Option (List PyData)} {spl : PyData → Option (List PyData)} {is ow : List Nat} {ft : En → Option Bool} {fe : En → Option PyData} (hc : X.calm = true) (hN : X.N.Nodup) (hi : DI X tg iter fi) (ok : BlkOk X.N X.env.scope scope own)
    (hg : ∀ (s : Shared) (H : Hp) (C : Addr) (cl : List (Str × Addr)) (fp : List Addr), DGc (X.blk s H scope (compEnvC scope cl C X.env) fp) tg is spl) (ht : ∀ (s : Shared) (H : Hp) (C : Addr) (cl : List (Str × Addr)) (fp : List Addr), DTs (X.blk s H scope (compEnvC scope cl C X.env) fp) ifs ft)
    (he : ∀ (s : Shared) (H : Hp) (C : Addr) (cl : List (Str × Addr)) (fp : List Addr), DE (X.blk s H scope (compEnvC scope cl C X.env) fp) elt fe) (how : own.map (·.2) = ow := by rfl) (hown : ∀ i ∈ is, i ∈ ow := by decide) (hs : ∀ x, foldedSetIterable iter X.env x = pure x := by intro _; rfl) :
    DL X (.ListComp elt [⟨tg, iter, ifs, 0⟩] scope pos) (eLc fi spl is ow ft fe) := by
  subst how
  obtain ⟨wi, pi, qi⟩ := hi
  refine ⟨_, pe_lc (g := rdG X.K is spl) (tt := rdTs X.K ft) (te := rdE X.K fe) hc hN pi ok (fun s H C cl fp => (hg s H C cl fp).pg) (fun s H C cl fp => (ht s H C cl fp).pt) (fun s H C cl fp => (he s H C cl fp).pe) hs, fun σ H1 H ρ rs Q s e k => ?_⟩
  exact lc_read qi hown s e k
/-- name = [..] where the model stores within the comprehension -/
theorem ds_setLc (i : Nat) {y : Str} {py spos : Pos} {elt iter : Expr} {ifs : List Expr} {scope : Scope} {own : List (Str × Nat)} {fi : En → Option (List PyData)} {spl : PyData → Option (List PyData)} {is ow : List Nat} {ft : En → Option Bool} {fe : En → Option PyData} (hc : X.calm = true) (hN : X.N.Nodup) (hi : DI X tg iter fi) (ok : BlkOk X.N X.env.scope scope own)
    (hg : ∀ (s : Shared) (H : Hp) (C : Addr) (cl : List (Str × Addr)) (fp : List Addr), DGc (X.blk s H scope (compEnvC scope cl C X.env) fp) tg is spl) (ht : ∀ (s : Shared) (H : Hp) (C : Addr) (cl : List (Str × Addr)) (fp : List Addr), DTs (X.blk s H scope (compEnvC scope cl C X.env) fp) ifs ft)
    (he : ∀ (s : Shared) (H : Hp) (C : Addr) (cl : List (Str × Addr)) (fp : List Addr), DE (X.blk s H scope (compEnvC scope cl C X.env) fp) elt fe) (hsw : swapsWith (.ListComp elt [⟨tg, iter, ifs, 0⟩] scope pos) (some (.Name y py)) spos.line X.env = pure true) (hy : X.N[i]? = some y := by rfl) (hyl : X.env.scope.names.lookup y = some .local := by rfl) (how : own.map (·.2) = ow := by rfl) (hown : ∀ i ∈ is, i ∈ ow := by decide) (hs : ∀ x, foldedSetIterable iter X.env x = pure x := by intro _; rfl) :
    DS X (.Assign [.Name y py] (.ListComp elt [⟨tg, iter, ifs, 0⟩] scope pos) spos) (sAsg (eL (eLc fi spl is ow ft fe)) (gN i)) := by
  subst how
  obtain ⟨wi, pi, qi⟩ := hi
  refine ⟨_, ps_setLc (g := rdG X.K is spl) (tt := rdTs X.K ft) (te := rdE X.K fe) hc hN hy hyl hsw pi ok (fun s H C cl fp => (hg s H C cl fp).pg) (fun s H C cl fp => (ht s H C cl fp).pt) (fun s H C cl fp => (he s H C cl fp).pe) hs, fun B1 B H1 H σ ρ o D s e k => ?_⟩
  obtain ⟨d, e1, e⟩ := bind_some e
  cases e
  obtain ⟨rs, e2, rfl⟩ := map_some e1
  refine lc_read qi hown s.sok e2 fun a vs H1' H' x n e' n' l dl => ?_
  have x2 := x.frz n e' n'
  exact k _ _ H' x2.st ((s.ext x2).set i (.lst (.of upd_same) l (DenL.mono (same_new n') _ _ dl)))
theorem ds_setLcM (i : Nat) {y : Str} {py spos : Pos} {elt iter : Expr} {ifs : List Expr} {scope : Scope} {own : List (Str × Nat)} {fi : En → Option (List PyData)} {spl : PyData → Option (List PyData)} {is ow : List Nat} {ft : En → Option Bool} {fe : En → Option PyData} (hc : X.calm = true) (hN : X.N.Nodup) (hi : DI X tg iter fi) (ok : BlkOk X.N X.env.scope scope own)
    (hg : ∀ (s : Shared) (H : Hp) (C : Addr) (cl : List (Str × Addr)) (fp : List Addr), DGc (X.blk s H scope (compEnvC scope cl C X.env) fp) tg is spl) (ht : ∀ (s : Shared) (H : Hp) (C : Addr) (cl : List (Str × Addr)) (fp : List Addr), DTs (X.blk s H scope (compEnvC scope cl C X.env) fp) ifs ft)
    (he : ∀ (s : Shared) (H : Hp) (C : Addr) (cl : List (Str × Addr)) (fp : List Addr), DE (X.blk s H scope (compEnvC scope cl C X.env) fp) elt fe) (hsw : swapsWith (.ListComp elt [⟨tg, iter, ifs, 0⟩] scope pos) (some (.Name y py)) spos.line X.env = pure true) (hy : X.N[i]? = some y := by rfl) (hyl : X.env.scope.names.lookup y = some .local := by rfl) (how : own.map (·.2) = ow := by rfl) (hown : ∀ i ∈ is, i ∈ ow := by decide) (hs : ∀ x, foldedSetIterable iter X.env x = pure x := by intro _; rfl) :
    DS X (.Assign [.Name y py] (.ListComp elt [⟨tg, iter, ifs, 0⟩] scope pos) spos) (sAsgL i (eLc fi spl is ow ft fe)) := by
  subst how
  obtain ⟨wi, pi, qi⟩ := hi
  refine ⟨_, ps_setLc (g := rdG X.K is spl) (tt := rdTs X.K ft) (te := rdE X.K fe) hc hN hy hyl hsw pi ok (fun s H C cl fp => (hg s H C cl fp).pg) (fun s H C cl fp => (ht s H C cl fp).pt) (fun s H C cl fp => (he s H C cl fp).pe) hs, fun B1 B H1 H σ ρ o D s e k => ?_⟩
  obtain ⟨rs, e1, rfl⟩ := map_some e
  refine lc_read qi hown s.sok e1 fun a vs H1' H' x n e' n' l dl => ?_
  exact k _ H1' H' x.st (s.setM i x (fun b h => by cases h; exact n) ⟨a, vs, rfl, e', n', l, dl⟩)
end

/-! ### defs -/
def outD : Option Out → Option PyData
  | some (.rt d) => some d
  | some (.nx _) => some .none
  | _ => none
def fnD (n m : Nat) (f : En → Option Out) (ds : List PyData) : Option PyData := if ds.length = n then outD (f (ds.map (fun d => some (.im d)) ++ List.replicate m none)) else none
def spD (K : PySem.W.Frag) (n : Nat) (g : List PyData → Option PyData) : Sp := fun vs H Q _ => vs.length = n ∧ ∃ (H1 : Hp) (ds : List PyData) (d : PyData), Same H1 H ∧ DenL K H1 vs ds ∧ g ds = some d ∧ ∀ v H1' H', Ext H1 H H1' H' → Den K H1' v d → Q v H'
structure CalD (P : Program) (w : World) (K : PySem.W.Frag) (mg : Str → Option Value) (base : Heap) (k : Nat) (x : Str) (n : Nat) (g : List PyData → Option PyData) : Prop where
  ex : ∃ (f : Addr) (fd : FuncData) (ps : List Str), FnOk P w K mg base CX0 k f fd ps (spD K n g) ∧ mg x = some (.ref f) ∧ PySem.W.keepIn K (.ref f) = true ∧ Binds K fd ps []
section
variable {P : Program} {w : World} {K : PySem.W.Frag} {mg : Str → Option Value} {base : Heap}
theorem sok_start {H1 H : Hp} {vs : List V} {ds : List PyData} {m : Nat} (s : Same H1 H) (dl : DenL K H1 vs ds) : Sok K H1 H (vs.map some ++ List.replicate m none) (ds.map (fun d => some (.im d)) ++ List.replicate m none) := by
  have cs : ∀ {j : Nat} {u}, (ds.map (fun d => some (W.im d)) ++ List.replicate m none)[j]? = some (some u) → ∃ d, u = .im d ∧ ds[j]? = some d := fun {j u} e => by
    by_cases hj : j < ds.length
    · rw [List.getElem?_append_left (by rw [List.length_map]; exact hj), List.getElem?_map, List.getElem?_eq_getElem hj] at e
      cases e
      exact ⟨_, rfl, List.getElem?_eq_getElem hj⟩
    · rw [List.getElem?_append_right (by rw [List.length_map]; omega)] at e
      have := List.eq_of_mem_replicate (List.mem_of_getElem? e)
      cases this
  refine ⟨s, by rw [List.length_append, List.length_append, List.length_map, List.length_map, List.length_replicate, List.length_replicate, dl.length], fun j u e => ?_, fun j l u u' v1 v2 b e1 e2 f1 f2 m1 m2 => ?_⟩
  · obtain ⟨d, rfl, e3⟩ := cs e
    obtain ⟨v, e2, dv⟩ := dl.get e3
    refine ⟨v, ?_, dv⟩
    rw [List.getElem?_append_left (by rw [List.length_map]; exact (List.getElem?_eq_some_iff.mp e2).1), List.getElem?_map, e2]
    rfl
  · obtain ⟨d, rfl, e⟩ := cs e1
    exact m1.elim
theorem fn_mk {x : Str} {st : Stmt} {f : Addr} {fd : FuncData} {N ps : List Str} {k : Nat} {fb : En → Option Out} (n m : Nat) (F : Fun K x x st f fd) (S : FnScope N ps (defScope st)) (hn : ps.length = n) (hNm : N.length = n + m)
    (body : ∀ (cdv : Value) (A : Around) (outer : List Env) (s : Shared) (H : Hp) (E : XK), Room k (A.deeper (envOfC x (defScope st) s.heap.objs.size f cdv)) → DSs (cxOf CX0 P w K mg base N x (defScope st) f cdv A outer s H E).nox (defBody st) fb) :
    FnOk P w K mg base CX0 (k + 1) f fd ps (spD K n (fnD n m fb)) := by
  subst hn
  refine F.ok S (fun vs H Q E h => h.1) (fun cdv A outer s H vs Q E hr h => ?_)
  obtain ⟨hl, H1, ds, d, sm, dl, e, k⟩ := h
  obtain ⟨t, p, q⟩ := body cdv A outer s H E hr
  unfold fnD at e
  have hds : ds.length = ps.length := by rw [← dl.length]; exact hl
  rw [if_pos hds] at e
  refine ⟨t, p, ?_⟩
  have hst : L2.start N vs = vs.map some ++ List.replicate m none := by
    unfold L2.start
    rw [show N.length - vs.length = m by omega]
  rw [hst]
  cases ho : fb (ds.map (fun d => some (.im d)) ++ List.replicate m none) with
  | none => rw [ho] at e; cases e
  | some o =>
    rw [ho] at e
    have sk : Sok K H1 H (vs.map some ++ List.replicate m none) (ds.map (fun d => some (.im d)) ++ List.replicate m none) := sok_start sm dl
    have s0 : Sst K H1 H H1 H (vs.map some ++ List.replicate m none) (ds.map (fun d => some (.im d)) ++ List.replicate m none) := by
      refine ⟨sk, sm, .refl sm, fun i w v b e _ m => ?_⟩
      have := List.mem_of_getElem? e
      rcases List.mem_append.mp this with z | z
      · obtain ⟨d, _, z⟩ := List.mem_map.mp z
        cases z
        exact m.elim
      · have := List.eq_of_mem_replicate z
        cases this
    refine q H1 H H1 H _ _ o _ s0 ho ?_
    cases o with
    | rt d' =>
      cases e
      exact fun v H1' H' x dv => k v H1' H' x dv
    | nx ρ =>
      cases e
      exact fun σ H1' H' _ s => k .non H1' H' s.fr .non
    | bk ρ => cases e
    | ct ρ => cases e
theorem cal_mk {x : Str} {st : Stmt} {f : Addr} {fd : FuncData} {N ps : List Str} {k : Nat} {fb : En → Option Out} (n m : Nat) (F : Fun K x x st f fd) (hm : mg x = some (.ref f)) (b : Binds K fd ps []) (S : FnScope N ps (defScope st)) (hn : ps.length = n) (hNm : N.length = n + m)
    (body : ∀ (cdv : Value) (A : Around) (outer : List Env) (s : Shared) (H : Hp) (E : XK), Room k (A.deeper (envOfC x (defScope st) s.heap.objs.size f cdv)) → DSs (cxOf CX0 P w K mg base N x (defScope st) f cdv A outer s H E).nox (defBody st) fb) :
    CalD P w K mg base (k + 1) x n (fnD n m fb) :=
  ⟨f, fd, ps, fn_mk n m F S hn hNm body, hm, F.kp, b⟩
/-- nothing is promised -/
theorem cal_zero {x : Str} {st : Stmt} {f : Addr} {fd : FuncData} {ps : List Str} {k n : Nat} (F : Fun K x x st f fd) (hm : mg x = some (.ref f)) (b : Binds K fd ps []) (hn : ps.length = n := by rfl) : CalD P w K mg base k x n (fun _ => none) :=
  ⟨f, fd, ps, ⟨fun vs H Q E h => h.1.trans hn.symm, fun A outer s H args us vs Q E hr e0 hb r h => by
    obtain ⟨_, _, _, _, _, _, e, _⟩ := h
    cases e⟩, hm, F.kp, b⟩
/-- the law's call -/
theorem law_sp {g : List PyData → Option PyData} (hg : ∀ ns : List Int, ns.length ≤ 63 → g [.list (ns.map PyData.int)] = some (.bool true)) {H : Hp} {a : Addr} {ns : List Int} {E : XK} (hS : SqL K H a (ns.map V.int)) (hl : ns.length ≤ 63) : spD K 1 g [.ref a] H (fun v _ => v = .bl true) E :=
  ⟨rfl, H, [.list (ns.map PyData.int)], .bool true, .refl H, .one (.lst hS (by rw [List.length_map, sizeLine_eq]; omega) (DenL.ints ns)), hg ns hl, fun v H1' H' x dv => den_bl dv⟩
end
section
variable {X : Cx} {e : Expr} {es : List Expr} {fs : En → Option (List PyData)} {pos p : Pos} {x : Str} {k j n : Nat} {g : List PyData → Option PyData}
theorem de_fn (c : CalD X.prog X.w X.K X.mg X.base k x n g) (hr : Room j X.A) (hk : k ≤ j) (hg : Gl X x) (ha : DA X (e :: es) fs) (hn : ∀ ρ ds, fs ρ = some ds → ds.length = n) (hdb : (x == ("__debug__" : Str)) = false := by decide)
    (he : starEach (e :: es) X.env = (false, eval e X.env) :: starEach es X.env := by rfl) (hpl : (backTo pos (starEach es X.env)).any (·.1) = false := by rfl) :
    DE X (.Call (.Name x p) (e :: es) [] pos) (eN g fs) := by
  obtain ⟨f, fd, ps, F, hm, kp, b⟩ := c.ex
  obtain ⟨t, pt, q⟩ := ha
  refine ⟨_, pe_call F (hr.mono hk) hg hm kp b .nil pass0 pt hdb he hpl, fun σ H1 H ρ d Q s h k => ?_⟩
  obtain ⟨ds, h1, h⟩ := bind_some h
  refine q σ H1 H ρ ds _ s h1 fun vs H1' H' x1 q1 => ?_
  show spD X.K n g (vs ++ []) H' Q E0
  rw [List.append_nil]
  exact ⟨q1.length.trans (hn _ _ h1), H1', ds, d, x1.sub, q1, h, fun v H2 H2' x2 => k v H2 H2' (x1.trans x2)⟩
end
theorem len_nil : ∀ ρ ds, eNil ρ = some ds → ds.length = 0 := fun ρ ds h => by cases h; rfl
theorem len_cons {f : En → Option PyData} {r : En → Option (List PyData)} {n : Nat} (h : ∀ ρ ds, r ρ = some ds → ds.length = n) : ∀ ρ ds, eCons f r ρ = some ds → ds.length = n + 1 := fun ρ ds e => by
  obtain ⟨d, _, e⟩ := bind_some e
  obtain ⟨es, e1, rfl⟩ := map_some e
  rw [List.length_cons, h _ _ e1]
end Dv

namespace Dv
open PySem PySem.Spec PyProof.Rows L2

/-! ### operators on data -/
def iiD (g : Int → Int → Int) (C : Int → Int → Bool) : PyData → PyData → Option PyData
  | .int i, .int j => if C i j = true then some (.int (g i j)) else none
  | _, _ => none
def addD : PyData → PyData → Option PyData
  | .int i, .int j => some (.int (i + j))
  | .str i, .str j => if i.length + j.length ≤ sizeLine then some (.str (i ++ j)) else none
  | .list a, .list b => if a.length + b.length ≤ sizeLine then some (.list (a ++ b)) else none
  | .tuple a, .tuple b => if a.length + b.length ≤ sizeLine then some (.tuple (a ++ b)) else none
  | _, _ => none
def catD : PyData → PyData → Option (List PyData)
  | .list a, .list b => if a.length + b.length ≤ sizeLine then some (a ++ b) else none
  | _, _ => none
def subD : PyData → PyData → Option PyData
  | .int i, .int j => some (.int (i - j))
  | _, _ => none
def cMul (i j : Int) : Bool := decide (i.natAbs < 18446744073709551616) || decide (j.natAbs < 18446744073709551616)
def modD : PyData → PyData → Option PyData
  | .int i, .int j => if 0 < j then some (.int (i % j)) else none
  | _, _ => none
def fdivD : PyData → PyData → Option PyData
  | .int i, .int j => if 0 < j ∧ j.natAbs < 1073741824 then some (.int (i / j)) else none
  | _, _ => none
def ltD : PyData → PyData → Option PyData
  | .int i, .int j => some (.bool (decide (i < j)))
  | _, _ => none
def leD : PyData → PyData → Option PyData
  | .int i, .int j => some (.bool (decide (i ≤ j)))
  | _, _ => none
def gtD : PyData → PyData → Option PyData
  | .int i, .int j => some (.bool (decide (j < i)))
  | _, _ => none
def geD : PyData → PyData → Option PyData
  | .int i, .int j => some (.bool (decide (j ≤ i)))
  | _, _ => none
def good (d : PyData) : Bool := d.canLay0 && decide (d.depth ≤ 60)
def eqD (d e : PyData) : Option PyData := if good d && good e then some (.bool (PyData.eqv d e)) else none
def neD (d e : PyData) : Option PyData := if good d && good e then some (.bool (!PyData.eqv d e)) else none
def inD (d e : PyData) : Option PyData := if good d && good e then (match e with
  | .list es => some (.bool (es.any fun z => PyData.eqv z d))
  | .tuple es => some (.bool (es.any fun z => PyData.eqv z d))
  | _ => none) else none
def ninD (d e : PyData) : Option PyData := if good d && good e then (match e with
  | .list es => some (.bool (!es.any fun z => PyData.eqv z d))
  | .tuple es => some (.bool (!es.any fun z => PyData.eqv z d))
  | _ => none) else none
def isNonB : PyData → Bool
  | .none => true
  | _ => false
def isN (d e : PyData) : Option PyData := if isNonB e = true then some (.bool (isNonB d)) else none
def notN (d e : PyData) : Option PyData := if isNonB e = true then some (.bool (!isNonB d)) else none
def negD : PyData → Option PyData
  | .int i => some (.int (-i))
  | _ => none

section
variable {X : Cx} {K : PySem.W.Frag}
theorem of_if {α : Type} {c : Prop} [Decidable c] {a b : α} (h : (if c then some a else none) = some b) : c ∧ a = b := by
  split at h
  · rename_i hc; exact ⟨hc, Option.some.inj h⟩
  · cases h

/-- + : one rule for ints, texts, lists, tuples -/
def rAddA (K : PySem.W.Frag) : R2 := fun x y H Q => rI0 (fun i j => .int (i + j)) x y H Q ∨ (∃ i j, x = .str i ∧ y = .str j ∧ i.length + j.length ≤ sizeLine ∧ Q (.str (i ++ j)) H) ∨ rCatA K x y H Q ∨
  (∃ l b xs zs, x = .ref l ∧ y = .ref b ∧ SqL K H l xs ∧ SqL K H b zs ∧ xs.length + zs.length ≤ sizeLine ∧ ∀ p, H p = none → Q (.ref p) (upd H p (.lst (xs ++ zs))))
theorem lst_obj {pins : List (Addr × Obj)} {σ : L2.St} {H : Hp} {s : Shared} {l : Addr} {xs : List V} (I : Inv X pins σ H s) (h : SqL X.K H l xs) : ∃ its : List Value, Vals xs its ∧ ∃ (n : Nat) (dd : Option Addr) (sl : Array (Option Value)), s.heap.get? l = some { cls := .type "list", dict := dd, data := .seq its.toArray n, slots := sl } ∧ xs.length ≤ sizeLine := by
  obtain ⟨its, rv, ⟨⟨c, dd, dt, sl⟩, n, ho, hc, hd, hdt⟩, hz⟩ := I.list h
  simp only at hc hd hdt
  subst hc hd hdt
  exact ⟨its, rv, n, _, sl, ho, hz⟩

theorem op_addA : OpR X (binaryOp .Add) (rAddA X.K) := by
  intro pins s σ H x y v u Q I rx ry h
  rcases h with h | h | h | h
  · exact op_add pins s σ H x y v u Q I rx ry h
  · exact op_add_str pins s σ H x y v u Q I rx ry h
  · exact op_catA pins s σ H x y v u Q I rx ry h
  · obtain ⟨l, b, xs, zs, rfl, rfl, hL, hB, hz, q⟩ := h
    cases rx
    cases ry
    obtain ⟨its, r, n, dd, sl, ho, _⟩ := lst_obj I hL
    obtain ⟨its2, r2, n2, dd2, sl2, ho2, _⟩ := lst_obj I hB
    have hsz : its.length + its2.length ≤ sizeLine := by rw [← r.length, ← r2.length]; exact hz
    have e : its.toArray ++ its2.toArray = (its ++ its2).toArray := by simp
    refine concat_meets ⟨_, ho, rfl⟩ ⟨_, ho2, rfl⟩ noFill_list_add seq_list_add PySem.F.slot_list_add PySem.F.entry_list_add (PySem.F.args_list_add_2 _ _) (list_addW l b its.toArray its2.toArray n n2 dd dd2 sl sl2 (by simpa using hsz)) ⟨ho, ho2, ?_⟩
    rw [e]
    exact ⟨.ref _, _, I.lnew (t' := s.toks) (r.append r2) (by rw [List.length_append]; omega), rfl, q _ I.fresh⟩
theorem v_add : V2 K (rAddA K) addD := by
  intro x y d e c H1 H Q sm dx dy h k
  unfold addD at h
  split at h
  · cases h
    cases dx
    cases dy
    exact .inl ⟨_, _, rfl, rfl, k _ H1 H (.refl sm) (.int _)⟩
  · obtain ⟨hl, rfl⟩ := of_if h
    cases dx
    cases dy
    exact .inr (.inl ⟨_, _, rfl, rfl, hl, k _ H1 H (.refl sm) (.str _)⟩)
  · obtain ⟨hl, rfl⟩ := of_if h
    cases dx with
    | lst h1 l1 q1 =>
      cases dy with
      | lst h2 l2 q2 =>
        refine .inr (.inr (.inr ⟨_, _, _, _, rfl, rfl, sm.seq h1, sm.seq h2, by rw [q1.length, q2.length]; exact hl, fun p n => ?_⟩))
        exact k _ _ _ (.new sm n) (.lst (.of upd_same) (by rw [List.length_append]; exact hl) (DenL.mono (same_new (sm.free n)) _ _ (q1.append q2)))
  · obtain ⟨hl, rfl⟩ := of_if h
    cases dx with
    | tup h1 l1 q1 =>
      cases dy with
      | tup h2 l2 q2 =>
        refine .inr (.inr (.inl ⟨_, _, _, _, rfl, rfl, sqT_mono sm h1, sqT_mono sm h2, by rw [q1.length, q2.length]; exact hl, fun e => ?_, fun e1 e2 => ?_, fun e1 e2 p n => ?_⟩))
        · subst e
          cases q1
          exact k _ H1 H (.refl sm) (.tup h2 l2 q2)
        · subst e2
          cases q2
          refine k _ H1 H (.refl sm) ?_
          rw [List.append_nil]
          exact .tup h1 l1 q1
        · exact k _ _ _ (.new sm n) (.tup (.of upd_same) (by rw [List.length_append]; exact hl) (DenL.mono (same_new (sm.free n)) _ _ (q1.append q2)))
  · cases h
theorem v_cat : V2L K (rAddA K) catD := by
  intro x y d e cs H1 H Q sm dx dy h k
  unfold catD at h
  split at h
  · obtain ⟨hl, rfl⟩ := of_if h
    cases dx with
    | lst h1 l1 q1 =>
      cases dy with
      | lst h2 l2 q2 =>
        refine .inr (.inr (.inr ⟨_, _, _, _, rfl, rfl, sm.seq h1, sm.seq h2, by rw [q1.length, q2.length]; exact hl, fun p n => ?_⟩))
        exact k p _ H1 _ (.newMut sm n) n upd_same (sm.free n) (by rw [List.length_append]; exact hl) (q1.append q2)
  · cases h
theorem v_ii {C : Int → Int → Prop} {g : Int → Int → V} {f : PyData → PyData → Option PyData} (h : ∀ d e c, f d e = some c → ∃ i j, d = .int i ∧ e = .int j ∧ C i j ∧ ∀ (H : Hp), Den K H (g i j) c) : V2 K (rI C g) f := by
  intro x y d e c H1 H Q sm dx dy hf k
  obtain ⟨i, j, rfl, rfl, hc, q⟩ := h d e c hf
  cases dx
  cases dy
  exact ⟨i, j, rfl, rfl, hc, k _ H1 H (.refl sm) (q H1)⟩
theorem v_ii0 {g : Int → Int → V} {f : PyData → PyData → Option PyData} (h : ∀ d e c, f d e = some c → ∃ i j, d = .int i ∧ e = .int j ∧ ∀ (H : Hp), Den K H (g i j) c) : V2 K (rI0 g) f := by
  intro x y d e c H1 H Q sm dx dy hf k
  obtain ⟨i, j, rfl, rfl, q⟩ := h d e c hf
  cases dx
  cases dy
  exact ⟨i, j, rfl, rfl, k _ H1 H (.refl sm) (q H1)⟩
theorem v_sub : V2 K (rI0 fun i j => .int (i - j)) subD := v_ii0 fun d e c h => by
  unfold subD at h
  split at h
  · cases h; exact ⟨_, _, rfl, rfl, fun _ => .int _⟩
  · cases h
theorem v_lt : V2 K (rI0 fun i j => .bl (decide (i < j))) ltD := v_ii0 fun d e c h => by
  unfold ltD at h
  split at h
  · cases h; exact ⟨_, _, rfl, rfl, fun _ => .bl _⟩
  · cases h
theorem v_le : V2 K (rI0 fun i j => .bl (decide (i ≤ j))) leD := v_ii0 fun d e c h => by
  unfold leD at h
  split at h
  · cases h; exact ⟨_, _, rfl, rfl, fun _ => .bl _⟩
  · cases h
theorem v_gt : V2 K (rI0 fun i j => .bl (decide (j < i))) gtD := v_ii0 fun d e c h => by
  unfold gtD at h
  split at h
  · cases h; exact ⟨_, _, rfl, rfl, fun _ => .bl _⟩
  · cases h
theorem v_ge : V2 K (rI0 fun i j => .bl (decide (j ≤ i))) geD := v_ii0 fun d e c h => by
  unfold geD at h
  split at h
  · cases h; exact ⟨_, _, rfl, rfl, fun _ => .bl _⟩
  · cases h
theorem v_mod : V2 K (rI (fun _ j => 0 < j) fun i j => .int (i % j)) modD := v_ii fun d e c h => by
  unfold modD at h
  split at h
  · obtain ⟨hc, rfl⟩ := of_if h; exact ⟨_, _, rfl, rfl, hc, fun _ => .int _⟩
  · cases h
theorem v_fdiv : V2 K (rI CDiv fun i j => .int (i / j)) fdivD := v_ii fun d e c h => by
  unfold fdivD at h
  split at h
  · obtain ⟨hc, rfl⟩ := of_if h; exact ⟨_, _, rfl, rfl, ⟨hc.1, by omega⟩, fun _ => .int _⟩
  · cases h
theorem cMul_ok {i j : Int} (h : cMul i j = true) : CMul i j := by
  unfold cMul at h
  simp only [Bool.or_eq_true, decide_eq_true_eq] at h
  unfold CMul
  omega
/-- * of ints, a tuple times an int -/
def rMulA (K : PySem.W.Frag) : R2 := fun x y H Q => rI CMul (fun i j => .int (i * j)) x y H Q ∨ rRepT K x y H Q
theorem op_mulA : OpR X (binaryOp .Mult) (rMulA X.K) := op_mul.or op_repT
def mulD2 : PyData → PyData → Option PyData
  | .int i, .int j => if cMul i j = true then some (.int (i * j)) else none
  | .tuple a, .int k => if a.isEmpty = false ∧ 2 ≤ k.toNat ∧ k.toNat ≤ 1000 ∧ a.length ≤ 1000 then some (.tuple (List.replicate k.toNat a).flatten) else none
  | _, _ => none
theorem rep_len {α : Type} (a : List α) (n : Nat) : (List.replicate n a).flatten.length = n * a.length := by
  rw [PyProof.Rows.lm_len_rep_flat]
theorem v_mul : V2 K (rMulA K) mulD2 := by
  intro x y d e c H1 H Q sm dx dy h k
  unfold mulD2 at h
  split at h
  · obtain ⟨hc, rfl⟩ := of_if h
    cases dx
    cases dy
    exact .inl ⟨_, _, rfl, rfl, cMul_ok hc, k _ H1 H (.refl sm) (.int _)⟩
  · obtain ⟨⟨h1, h2, h3, h4⟩, rfl⟩ := of_if h
    cases dx with
    | tup hs hl dl =>
      cases dy
      rename_i a kk A xs
      have hx : xs.length = a.length := dl.length
      refine .inr ⟨_, _, _, rfl, rfl, sqT_mono sm hs, fun e => ?_, by omega, by omega, by rw [hx]; exact h4, fun p n => ?_⟩
      · subst e
        cases dl
        cases h1
      · have hlen : (List.replicate kk.toNat a).flatten.length ≤ sizeLine := by
          rw [rep_len, sizeLine_eq]
          have := Nat.mul_le_mul (show kk.toNat ≤ 1000 by omega) h4
          omega
        exact k _ _ _ (.new sm n) (.tup (.of upd_same) hlen (DenL.mono (same_new (sm.free n)) _ _ (dl.rep _)))
  · cases h
theorem v_neg : V1 K (rU fun i => .int (-i)) negD := by
  intro x d c H1 H Q sm dx h k
  unfold negD at h
  split at h
  · cases h
    cases dx
    exact ⟨_, rfl, k _ H1 H (.refl sm) (.int _)⟩
  · cases h
theorem good_lay {d : PyData} (h : good d = true) : d.canLay0 = true := (Bool.and_eq_true_iff.mp h).1
theorem good_depth {d : PyData} (h : good d = true) : d.depth ≤ 60 := of_decide_eq_true (Bool.and_eq_true_iff.mp h).2
theorem good_shaped {d : PyData} (h : good d = true) : SeqAt.shaped d = true := by
  unfold SeqAt.shaped
  rw [good_lay h, Bool.true_and]
  exact decide_eq_true (Nat.le_trans (good_depth h) (by decide))
theorem v_eq : V2 K (rEqD K) eqD := by
  intro x y d e c H1 H Q sm dx dy h k
  obtain ⟨hg, rfl⟩ := of_if h
  rw [Bool.and_eq_true] at hg
  exact ⟨d, e, Den.dp _ _ (Den.mono sm _ _ dx), Den.dp _ _ (Den.mono sm _ _ dy), good_shaped hg.1, good_shaped hg.2, k _ H1 H (.refl sm) (.bl _)⟩
theorem v_ne : V2 K (rNeD K) neD := by
  intro x y d e c H1 H Q sm dx dy h k
  obtain ⟨hg, rfl⟩ := of_if h
  rw [Bool.and_eq_true] at hg
  exact ⟨d, e, Den.dp _ _ (Den.mono sm _ _ dx), Den.dp _ _ (Den.mono sm _ _ dy), good_shaped hg.1, good_shaped hg.2, k _ H1 H (.refl sm) (.bl _)⟩
def rInA (K : PySem.W.Frag) : R2 := fun x y H Q => ∃ d ds, Dp K H x d ∧ (Dp K H y (.list ds) ∨ Dp K H y (.tuple ds)) ∧ good d = true ∧ PyData.canLayAll0 ds = true ∧ PyData.depthAll ds ≤ 60 ∧ Q (.bl (ds.any fun z => PyData.eqv z d)) H
def rNinA (K : PySem.W.Frag) : R2 := fun x y H Q => ∃ d ds, Dp K H x d ∧ (Dp K H y (.list ds) ∨ Dp K H y (.tuple ds)) ∧ good d = true ∧ PyData.canLayAll0 ds = true ∧ PyData.depthAll ds ≤ 60 ∧ Q (.bl (!ds.any fun z => PyData.eqv z d)) H
theorem op_inA (hu : X.A.units + 64 < cLine) : OpR X (compareOp .In) (rInA X.K) := by
  intro pins s σ H x y v u Q I rx ry h
  obtain ⟨d, ds, hd, he, sd, c1, c2, q⟩ := h
  obtain ⟨as, r1⟩ := Dp.reads I d x v hd rx
  have hr : X.A.units + 1 + min (PyData.depthAll ds) d.depth < cLine := by
    have := Nat.min_le_left (PyData.depthAll ds) d.depth
    omega
  rcases he with he | he
  · obtain ⟨bs, r2⟩ := Dp.reads I (.list ds) y u he ry
    exact SeqAt.in_list_reads r2 r1 c1 (good_lay sd) hr ⟨.bl _, H, I, rfl, q⟩
  · obtain ⟨bs, r2⟩ := Dp.reads I (.tuple ds) y u he ry
    exact SeqAt.in_tuple_reads r2 r1 c1 (good_lay sd) hr ⟨.bl _, H, I, rfl, q⟩
theorem op_ninA (hu : X.A.units + 64 < cLine) : OpR X (compareOp .NotIn) (rNinA X.K) := by
  intro pins s σ H x y v u Q I rx ry h
  obtain ⟨d, ds, hd, he, sd, c1, c2, q⟩ := h
  obtain ⟨as, r1⟩ := Dp.reads I d x v hd rx
  have hr : X.A.units + 1 + min (PyData.depthAll ds) d.depth < cLine := by
    have := Nat.min_le_left (PyData.depthAll ds) d.depth
    omega
  rcases he with he | he
  · obtain ⟨bs, r2⟩ := Dp.reads I (.list ds) y u he ry
    exact SeqAt.notIn_list_reads r2 r1 c1 (good_lay sd) hr ⟨.bl _, H, I, rfl, q⟩
  · obtain ⟨bs, r2⟩ := Dp.reads I (.tuple ds) y u he ry
    exact SeqAt.notIn_tuple_reads r2 r1 c1 (good_lay sd) hr ⟨.bl _, H, I, rfl, q⟩
theorem v_in : V2 K (rInA K) inD := by
  intro x y d e c H1 H Q sm dx dy h k
  unfold inD at h
  split at h
  · rename_i hg
    rw [Bool.and_eq_true] at hg
    have dy' := Den.dp _ _ (Den.mono sm _ _ dy)
    have gl := good_lay hg.2
    have gd := good_depth hg.2
    split at h
    · cases h
      exact ⟨d, _, Den.dp _ _ (Den.mono sm _ _ dx), .inl dy', hg.1, by simpa only [PyData.canLay0] using gl, by simp only [PyData.depth] at gd; omega, k _ H1 H (.refl sm) (.bl _)⟩
    · cases h
      exact ⟨d, _, Den.dp _ _ (Den.mono sm _ _ dx), .inr dy', hg.1, by simpa only [PyData.canLay0] using gl, by simp only [PyData.depth] at gd; omega, k _ H1 H (.refl sm) (.bl _)⟩
    · cases h
  · cases h
theorem v_nin : V2 K (rNinA K) ninD := by
  intro x y d e c H1 H Q sm dx dy h k
  unfold ninD at h
  split at h
  · rename_i hg
    rw [Bool.and_eq_true] at hg
    have dy' := Den.dp _ _ (Den.mono sm _ _ dy)
    have gl := good_lay hg.2
    have gd := good_depth hg.2
    split at h
    · cases h
      exact ⟨d, _, Den.dp _ _ (Den.mono sm _ _ dx), .inl dy', hg.1, by simpa only [PyData.canLay0] using gl, by simp only [PyData.depth] at gd; omega, k _ H1 H (.refl sm) (.bl _)⟩
    · cases h
      exact ⟨d, _, Den.dp _ _ (Den.mono sm _ _ dx), .inr dy', hg.1, by simpa only [PyData.canLay0] using gl, by simp only [PyData.depth] at gd; omega, k _ H1 H (.refl sm) (.bl _)⟩
    · cases h
  · cases h
theorem den_non {H : Hp} {v : V} {d : PyData} (h : Den K H v d) : decide (v = .non) = isNonB d := by
  cases h <;> rfl
theorem v_isN : V2 K (fun x y H Q => y = .non ∧ Q (.bl (decide (x = .non))) H) isN := by
  intro x y d e c H1 H Q sm dx dy h k
  obtain ⟨hn, rfl⟩ := of_if h
  cases dy <;> try (cases hn)
  refine ⟨rfl, ?_⟩
  rw [den_non dx]
  exact k _ H1 H (.refl sm) (.bl _)
theorem v_notN : V2 K (fun x y H Q => y = .non ∧ Q (.bl (!decide (x = .non))) H) notN := by
  intro x y d e c H1 H Q sm dx dy h k
  obtain ⟨hn, rfl⟩ := of_if h
  cases dy <;> try (cases hn)
  refine ⟨rfl, ?_⟩
  rw [den_non dx]
  exact k _ H1 H (.refl sm) (.bl _)

/-! ### built-ins on data -/
def lenD : List PyData → Option PyData
  | [.list ds] => some (.int ds.length)
  | [.tuple ds] => some (.int ds.length)
  | [.str z] => if z.length ≤ sizeLine then some (.int z.length) else none
  | _ => none
theorem v_len : VN K (fun xs H Q => ∃ x n, xs = [x] ∧ LenV K x H n ∧ Q (.int n) H) lenD := by
  intro xs ds c H1 H Q sm dl h k
  unfold lenD at h
  split at h
  · cases h
    cases dl with
    | cons d1 d2 =>
      cases d2
      cases d1 with
      | lst hs hl dl => exact ⟨_, _, rfl, .inl ⟨_, sm.seq hs, dl.length.symm⟩, k _ H1 H (.refl sm) (.int _)⟩
  · cases h
    cases dl with
    | cons d1 d2 =>
      cases d2
      cases d1 with
      | tup hs hl dl => exact ⟨_, _, rfl, .inr ⟨_, sqT_mono sm hs, dl.length.symm⟩, k _ H1 H (.refl sm) (.int _)⟩
  · obtain ⟨hz, rfl⟩ := of_if h
    cases dl with
    | cons d1 d2 =>
      cases d2
      cases d1
      exact ⟨_, _, rfl, ⟨hz, rfl⟩, k _ H1 H (.refl sm) (.int _)⟩
  · cases h
def maxD2 : List PyData → Option PyData
  | [.int i, .int j] => some (.int (if j > i then j else i))
  | _ => none
def minD2 : List PyData → Option PyData
  | [.int i, .int j] => some (.int (if j < i then j else i))
  | _ => none
theorem v_max2 : VN K (fun xs H Q => ∃ i j, xs = [.int i, .int j] ∧ Q (.int (if j > i then j else i)) H) maxD2 := by
  intro xs ds c H1 H Q sm dl h k
  unfold maxD2 at h
  split at h
  · cases h
    cases dl with
    | cons d1 d2 =>
      cases d2 with
      | cons d2 d3 =>
        cases d1
        cases d2
        cases d3
        exact ⟨_, _, rfl, k _ H1 H (.refl sm) (.int _)⟩
  · cases h
theorem v_min2 : VN K (fun xs H Q => ∃ i j, xs = [.int i, .int j] ∧ Q (.int (if j < i then j else i)) H) minD2 := by
  intro xs ds c H1 H Q sm dl h k
  unfold minD2 at h
  split at h
  · cases h
    cases dl with
    | cons d1 d2 =>
      cases d2 with
      | cons d2 d3 =>
        cases d1
        cases d2
        cases d3
        exact ⟨_, _, rfl, k _ H1 H (.refl sm) (.int _)⟩
  · cases h
def tupD : List PyData → Option PyData
  | [.list ds] => some (.tuple ds)
  | [.tuple ds] => some (.tuple ds)
  | _ => none
theorem v_tup : VN K (fun xs H Q => ∃ p ys, xs = [.ref p] ∧ ((SqL K H p ys ∧ ∀ l, H l = none → Q (.ref l) (upd H l (.tup ys))) ∨ (SqT K H p ys ∧ Q (.ref p) H))) tupD := by
  intro xs ds c H1 H Q sm dl h k
  unfold tupD at h
  split at h
  · cases h
    cases dl with
    | cons d1 d2 =>
      cases d2
      cases d1 with
      | lst hs hl dl => exact ⟨_, _, rfl, .inl ⟨sm.seq hs, fun p n => k _ _ _ (.new sm n) (.tup (.of upd_same) hl (DenL.mono (same_new (sm.free n)) _ _ dl))⟩⟩
  · cases h
    cases dl with
    | cons d1 d2 =>
      cases d2
      cases d1 with
      | tup hs hl dl => exact ⟨_, _, rfl, .inr ⟨sqT_mono sm hs, k _ H1 H (.refl sm) (.tup hs hl dl)⟩⟩
  · cases h
def listD : List PyData → Option (List PyData)
  | [.list ds] => some ds
  | [.tuple ds] => some ds
  | _ => none
theorem v_list : VNL K (fun xs H Q => ∃ p ys, xs = [.ref p] ∧ (SqL K H p ys ∨ SqT K H p ys) ∧ ∀ l, H l = none → Q (.ref l) (upd H l (.lst ys))) listD := by
  intro xs ds c H1 H Q sm dl h k
  unfold listD at h
  split at h
  · cases h
    cases dl with
    | cons d1 d2 =>
      cases d2
      cases d1 with
      | lst hs hl dl => exact ⟨_, _, rfl, .inl (sm.seq hs), fun p n => k p _ H1 _ (.newMut sm n) n upd_same (sm.free n) hl dl⟩
  · cases h
    cases dl with
    | cons d1 d2 =>
      cases d2
      cases d1 with
      | tup hs hl dl => exact ⟨_, _, rfl, .inr (sqT_mono sm hs), fun p n => k p _ H1 _ (.newMut sm n) n upd_same (sm.free n) hl dl⟩
  · cases h
/-- a list of truths -/
def bools : List PyData → Option (List Bool)
  | [] => some []
  | .bool b :: ds => (bools ds).map fun bs => b :: bs
  | _ :: _ => none
theorem bools_vals {H : Hp} : ∀ {ds : List PyData} {bs : List Bool} {xs : List V}, bools ds = some bs → DenL K H xs ds → xs = bs.map V.bl
  | [], bs, xs, h, dl => by cases h; cases dl; rfl
  | d :: ds, bs, xs, h, dl => by
    cases dl with
    | cons d1 d2 =>
      cases d <;> try (cases h)
      obtain ⟨cs, e, rfl⟩ := map_some h
      cases d1
      rw [bools_vals e d2]
      rfl
def allD : List PyData → Option PyData
  | [.list ds] => (bools ds).map fun bs => .bool (bs.all id)
  | _ => none
theorem v_all : VN K (rAll K) allD := by
  intro xs ds c H1 H Q sm dl h k
  unfold allD at h
  split at h
  · obtain ⟨bs, e, rfl⟩ := map_some h
    cases dl with
    | cons d1 d2 =>
      cases d2
      cases d1 with
      | lst hs hl dl =>
        have e2 := bools_vals e dl
        subst e2
        exact ⟨_, bs, rfl, sm.seq hs, k _ H1 H (.refl sm) (.bl _)⟩
  · cases h
/-- a list or tuple of ints -/
def intsD : List PyData → Option (List Int)
  | [] => some []
  | .int b :: ds => (intsD ds).map fun bs => b :: bs
  | _ :: _ => none
theorem intsD_vals {H : Hp} : ∀ {ds : List PyData} {bs : List Int} {xs : List V}, intsD ds = some bs → DenL K H xs ds → xs = bs.map V.int
  | [], bs, xs, h, dl => by cases h; cases dl; rfl
  | d :: ds, bs, xs, h, dl => by
    cases dl with
    | cons d1 d2 =>
      cases d <;> try (cases h)
      obtain ⟨cs, e, rfl⟩ := map_some h
      cases d1
      rw [intsD_vals e d2]
      rfl
theorem intsD_map : ∀ ns : List Int, intsD (ns.map PyData.int) = some ns
  | [] => rfl
  | n :: ns => by
    show (intsD (ns.map PyData.int)).map (fun bs => n :: bs) = _
    rw [intsD_map ns]
    rfl
def int1D : List PyData → Option PyData
  | [.int i] => some (.int i)
  | [.bool b] => some (.int (if b then 1 else 0))
  | _ => none
theorem v_int1 : VN K (fun xs H Q => (∃ i, xs = [.int i] ∧ Q (.int i) H) ∨ ∃ k, xs = [.bl k] ∧ Q (.int (if k then 1 else 0)) H) int1D := by
  intro xs ds c H1 H Q sm dl h k
  unfold int1D at h
  split at h
  · cases h
    cases dl with
    | cons d1 d2 =>
      cases d2
      cases d1
      exact .inl ⟨_, rfl, k _ H1 H (.refl sm) (.int _)⟩
  · cases h
    cases dl with
    | cons d1 d2 =>
      cases d2
      cases d1
      exact .inr ⟨_, rfl, k _ H1 H (.refl sm) (.int _)⟩
  · cases h
/-! ### a[i] -/
def idxD : PyData → PyData → Option PyData
  | .list ds, .int i => atI ds i
  | .tuple ds, .int i => atI ds i
  | .str z, .int i => if z.length ≤ sizeLine then (atI z.cps.toList i).map fun c => .str ⟨#[c]⟩ else none
  | _, _ => none
theorem DenL.at {H : Hp} {xs : List V} {ds : List PyData} {i : Int} {c : PyData} (dl : DenL K H xs ds) (h : atI ds i = some c) : ∃ v, atI xs i = some v ∧ Den K H v c := by
  unfold atI at h
  obtain ⟨j, e1, e2⟩ := bind_some h
  obtain ⟨v, q1, q2⟩ := dl.get e2
  refine ⟨v, ?_, q2⟩
  unfold atI
  rw [dl.length, e1]
  exact q1
theorem v_idx : V2 K (rIx K) idxD := by
  intro x y d e c H1 H Q sm dx dy h k
  unfold idxD at h
  split at h
  · cases dx with
    | lst hs hl dl =>
      cases dy
      obtain ⟨v, q1, q2⟩ := dl.at h
      exact .inl ⟨_, _, _, _, rfl, rfl, sm.seq hs, q1, k _ H1 H (.refl sm) q2⟩
  · cases dx with
    | tup hs hl dl =>
      cases dy
      obtain ⟨v, q1, q2⟩ := dl.at h
      exact .inr (.inl ⟨_, _, _, _, rfl, rfl, sqT_mono sm hs, q1, k _ H1 H (.refl sm) q2⟩)
  · split at h
    · rename_i hz
      obtain ⟨cc, q1, rfl⟩ := map_some h
      cases dx
      cases dy
      exact .inr (.inr ⟨_, _, _, rfl, rfl, hz, q1, k _ H1 H (.refl sm) (.str _)⟩)
    · cases h
  · cases h
end
section
variable {X : Cx} {a b c e lo hi : Expr} {es : List Expr} {fa fb fc f fl fh : En → Option PyData} {fs : En → Option (List PyData)} {pos p p2 : Pos} {x : Str} {tg : Expr} {tf : En → Option Bool}
theorem de_ix (ha : DE X a fa) (hb : DE X b fb) (hs : PlainIx b := by exact fun _ _ => rfl) : DE X (.Subscript a b pos) (e2 idxD fa fb) := by
  obtain ⟨ta, pa, qa⟩ := ha
  obtain ⟨tb, pb, qb⟩ := hb
  refine ⟨_, pe_ix ix_seq pa pb hs, fun σ H1 H ρ d Q s h k => ?_⟩
  obtain ⟨d1, h1, h⟩ := bind_some h
  obtain ⟨d2, h2, h⟩ := bind_some h
  exact two qa qb s h1 h2 fun x y H1' H' x1 q1 q2 => v_idx x y d1 d2 d H1' H' Q x1.sub q1 q2 h fun v H2 H2' x2 => k v H2 H2' (x1.trans x2)
/-! ### slices -/
def asI : PyData → Option (Option Int)
  | .int i => some (some i)
  | _ => none
def oNo : En → Option (Option Int) := fun _ => some none
def oSo (f : En → Option PyData) : En → Option (Option Int) := fun ρ => (f ρ).bind asI
def DO (X : Cx) (e : Option Expr) (f : En → Option (Option Int)) : Prop :=
  ∃ t, PO X e t ∧ ∀ (σ : L2.St) (H1 H : Hp) (ρ : En) (d : Option Int) (Q : Option Int → Hp → Prop), Sok X.K H1 H σ ρ → f ρ = some d → (∀ H1' H', Ext H1 H H1' H' → Q d H') → t σ H Q
theorem do_no : DO X none oNo := ⟨_, po_none, fun σ H1 H ρ d Q s h k => by cases h; exact k H1 H (.refl s.sub)⟩
theorem do_so (h : DE X e f) : DO X (some e) (oSo f) := by
  obtain ⟨t, p, q⟩ := h
  refine ⟨_, po_some p, fun σ H1 H ρ d Q s h k => ?_⟩
  obtain ⟨d1, h1, h⟩ := bind_some h
  cases d1 <;> try (cases h)
  refine q σ H1 H ρ _ _ s h1 fun v H1' H' x dv => ?_
  cases dv
  exact ⟨_, rfl, k _ _ x⟩
def cutD {α : Type} (xs : List α) (lo hi : Option Int) : List α := (xs.drop (HT.sIx xs.length 0 lo)).take (HT.sIx xs.length xs.length hi - HT.sIx xs.length 0 lo)
theorem cutD_len {α : Type} (xs : List α) (lo hi : Option Int) : (cutD xs lo hi).length ≤ xs.length := by
  unfold cutD
  rw [List.length_take, List.length_drop]
  omega
theorem DenL.cut {K : PySem.W.Frag} {H : Hp} {xs : List V} {ds : List PyData} (dl : DenL K H xs ds) (lo hi : Option Int) : DenL K H (cutV xs lo hi) (cutD ds lo hi) := by
  unfold cutV cutD
  rw [dl.length]
  exact (dl.drop _).take _
def slD (lo hi : Option Int) : PyData → Option PyData
  | .list ds => some (.list (cutD ds lo hi))
  | .tuple ds => some (.tuple (cutD ds lo hi))
  | .str z => if z.length ≤ sizeLine then some (.str (cutS z lo hi)) else none
  | _ => none
def eSl (f : En → Option PyData) (l h : En → Option (Option Int)) : En → Option PyData := fun ρ => (f ρ).bind fun d => (l ρ).bind fun lo => (h ρ).bind fun hi => slD lo hi d
def rSlAll (K : PySem.W.Frag) : V → Option Int → Option Int → Hp → VK → Prop := fun x lo hi H Q => rSlL K x lo hi H Q ∨ rSlA K x lo hi H Q ∨ rSlS x lo hi H Q
theorem sl_all : SlR X (rSlAll X.K) := sl_list.or (sl_tupA.or sl_str)
theorem v_sl {K : PySem.W.Frag} {x : V} {d c : PyData} {lo hi : Option Int} {H1 H : Hp} {Q : VK} (sm : Same H1 H) (dx : Den K H1 x d) (h : slD lo hi d = some c) (k : ∀ v H1' H', Ext H1 H H1' H' → Den K H1' v c → Q v H') : rSlAll K x lo hi H Q := by
  unfold slD at h
  split at h
  · cases h
    cases dx with
    | lst hs hl dl => exact .inl ⟨_, _, rfl, sm.seq hs, fun p n => k _ _ _ (.new sm n) (.lst (.of upd_same) (Nat.le_trans (cutD_len _ _ _) hl) (DenL.mono (same_new (sm.free n)) _ _ (dl.cut lo hi)))⟩
  · cases h
    cases dx with
    | tup hs hl dl =>
      refine .inr (.inl ⟨_, _, rfl, sqT_mono sm hs, fun hw => ?_, fun _ p n => k _ _ _ (.new sm n) (.tup (.of upd_same) (Nat.le_trans (cutD_len _ _ _) hl) (DenL.mono (same_new (sm.free n)) _ _ (dl.cut lo hi)))⟩)
      refine k _ H1 H (.refl sm) ?_
      rename_i ds A xs
      have hx : xs.length = ds.length := dl.length
      rw [hx] at hw
      have e : cutD ds lo hi = ds := by
        unfold cutD
        rw [hw.1, hw.2, List.drop_zero, Nat.sub_zero, List.take_length]
      rw [e]
      exact .tup hs hl dl
  · obtain ⟨hz, rfl⟩ := of_if h
    cases dx
    exact .inr (.inr ⟨_, rfl, hz, k _ H1 H (.refl sm) (.str _)⟩)
  · cases h
theorem de_sl {olo ohi : Option Expr} {gl gh : En → Option (Option Int)} (he : DE X e f) (hl : DO X olo gl) (hu : DO X ohi gh) : DE X (.Subscript e (.Slice olo ohi none p2) pos) (eSl f gl gh) := by
  obtain ⟨t, pt, q⟩ := he
  obtain ⟨tl, pl, ql⟩ := hl
  obtain ⟨th, ph, qh⟩ := hu
  refine ⟨_, pe_slice sl_all pt pl ph, fun σ H1 H ρ d Q s h k => ?_⟩
  obtain ⟨d1, h1, h⟩ := bind_some h
  obtain ⟨lo, h2, h⟩ := bind_some h
  obtain ⟨hi, h3, h⟩ := bind_some h
  refine q σ H1 H ρ d1 _ s h1 fun v H1' H' x dv => ql σ H1' H' ρ lo _ (s.ext x) h2 fun H2 H2' x2 => qh σ H2 H2' ρ hi _ ((s.ext x).ext x2) h3 fun H3 H3' x3 => ?_
  have x4 := (x.trans x2).trans x3
  exact v_sl x3.sub (Den.mono (x2.st.trans x3.st) _ _ dv) h fun w H4 H4' x5 dw => k w H4 H4' (x4.trans x5) dw

/-! ### isinstance -/
def tyN : PyData → String
  | .none => "NoneType"
  | .bool _ => "bool"
  | .int _ => "int"
  | .str _ => "str"
  | .list _ => "list"
  | .tuple _ => "tuple"
  | .dict _ => "dict"
theorem Den.tyX {K : PySem.W.Frag} {H : Hp} {v : V} {d : PyData} (h : Den K H v d) : TyX K H v (.type (tyN d)) := by
  cases h with
  | non => exact .base .non
  | bl b => exact .base (.bl b)
  | int i => exact .base (.int i)
  | str x => exact .base (.str x)
  | lst hs _ _ =>
    rcases hs with (h | ⟨o, h⟩) | ⟨o, its, n, h, c, _⟩
    · exact .base (.lst h)
    · exact .base (.frz h)
    · exact .kList h c
  | tup hs _ _ =>
    rcases hs with (h | ⟨o, h⟩) | ⟨o, its, n, h, c, _⟩
    · exact .base (.tup h)
    · exact .fTuple h
    · exact .kTuple h c
def isiD (T : String) (d : PyData) : Option PyData := (kitB (tyN d) T).map PyData.bool
theorem de_isi {T : String} {pT : Pos} {y : Str} (he : DE X e f) (hg : Gl X "isinstance") (hm : X.mg "isinstance" = none) (hgT : Gl X y) (hmT : X.mg y = none) (hvT : bootBuiltins y = some (.type T)) (hn : y ≠ "__name__" := by decide) (hd : (y == ("__debug__" : Str)) = false := by decide)
    (hst : starEach (e :: [.Name y pT]) X.env = (false, eval e X.env) :: starEach [.Name y pT] X.env := by rfl) (hst2 : starEach (.Name y pT :: []) X.env = (false, eval (.Name y pT) X.env) :: starEach [] X.env := by rfl) (hpl : (backTo pos (starEach [.Name y pT] X.env)).any (·.1) = false := by rfl) :
    DE X (.Call (.Name "isinstance" p) [e, .Name y pT] [] pos) (e1 (isiD T) f) := by
  obtain ⟨t, pt, q⟩ := he
  refine ⟨_, pe_callB call_isi hg hm (by decide +kernel) (pa_cons pt (pa_cons (pe_bltn (v := .ty T) hgT hmT hvT rfl hn hd) pa_nil hst2) hst) (he := hst) (hpl := hpl), fun σ H1 H ρ d Q s h k => ?_⟩
  obtain ⟨d1, h1, h⟩ := bind_some h
  obtain ⟨b, h2, rfl⟩ := map_some h
  refine q σ H1 H ρ d1 _ s h1 fun v H1' H' x dv => ?_
  exact ⟨v, .ty T, .type (tyN d1), .type T, b, rfl, .ty T, Den.tyX (Den.mono x.sub _ _ dv), kit_ty h2, k _ _ _ x (.bl b)⟩

/-! ### range(..) as a list, a tuple -/
theorem rgV_den {K : PySem.W.Frag} {H : Hp} (a b : Int) : DenL K H (rgV a b) (rng a (b - a).toNat) := by
  unfold rgV rng
  generalize List.range (b - a).toNat = l
  induction l with
  | nil => exact .nil
  | cons i l ih => exact .cons (.int _) ih
def rgOkB (a b : Int) : Bool := decide (a.natAbs ≤ 4194304) && decide (b.natAbs ≤ 4194304)
theorem rgOkB_ok {a b : Int} (h : rgOkB a b = true) : RgOk a b ∧ (b - a).toNat ≤ sizeLine := by
  unfold rgOkB at h
  simp only [Bool.and_eq_true, decide_eq_true_eq] at h
  rw [sizeLine_eq]
  exact ⟨⟨by omega, by omega, by omega, by omega, by omega⟩, by omega⟩
def rngD1 : PyData → Option (List PyData)
  | .int n => if rgOkB 0 n = true then some (rng 0 (n - 0).toNat) else none
  | _ => none
def eRg1 (f : En → Option PyData) : En → Option (List PyData) := fun ρ => (f ρ).bind rngD1
theorem dl_listRg {p1 p2 : Pos} (hc : X.calm = true) (hg : Gl X "list") (hm : X.mg "list" = none) (hg2 : Gl X "range") (hm2 : X.mg "range" = none) (ha : DE X a fa) (na : starEach [a] X.env = (false, eval a X.env) :: starEach [] X.env := by rfl)
    (nb : starEach [.Call (.Name "range" p1) [a] [] p2] X.env = (false, eval (.Call (.Name "range" p1) [a] [] p2) X.env) :: starEach [] X.env := by rfl) : DL X (.Call (.Name "list" p) [.Call (.Name "range" p1) [a] [] p2] [] pos) (eRg1 fa) := by
  obtain ⟨t, pt, q⟩ := ha
  refine ⟨_, pe_listRg hc hg hm (prg_1 hg2 hm2 pt na) nb, fun σ H1 H ρ d Q s h k => ?_⟩
  obtain ⟨d1, h1, h⟩ := bind_some h
  cases d1 <;> try (cases h)
  obtain ⟨hr, rfl⟩ := of_if h
  refine q σ H1 H ρ _ _ s h1 fun v H1' H' x dv => ?_
  cases dv
  obtain ⟨r1, r2⟩ := rgOkB_ok hr
  exact ⟨_, rfl, r1, fun p n => k p _ H1' _ (x.trans (.newMut x.sub n)) ((Ext.same s.sub x).free n) upd_same (x.sub.free n) (by rw [rng_len]; exact r2) (rgV_den _ _)⟩
def eRg1T (f : En → Option PyData) : En → Option PyData := fun ρ => (eRg1 f ρ).map PyData.tuple
theorem de_tupRg {p1 p2 : Pos} (hc : X.calm = true) (hg : Gl X "tuple") (hm : X.mg "tuple" = none) (hg2 : Gl X "range") (hm2 : X.mg "range" = none) (ha : DE X a fa) (na : starEach [a] X.env = (false, eval a X.env) :: starEach [] X.env := by rfl)
    (nb : starEach [.Call (.Name "range" p1) [a] [] p2] X.env = (false, eval (.Call (.Name "range" p1) [a] [] p2) X.env) :: starEach [] X.env := by rfl) : DE X (.Call (.Name "tuple" p) [.Call (.Name "range" p1) [a] [] p2] [] pos) (eRg1T fa) := by
  obtain ⟨t, pt, q⟩ := ha
  refine ⟨_, pe_tupRg hc hg hm (prg_1 hg2 hm2 pt na) nb, fun σ H1 H ρ d Q s h k => ?_⟩
  obtain ⟨rs, h', rfl⟩ := map_some h
  obtain ⟨d1, h1, h⟩ := bind_some h'
  cases d1 <;> try (cases h)
  obtain ⟨hr, rfl⟩ := of_if h
  refine q σ H1 H ρ _ _ s h1 fun v H1' H' x dv => ?_
  cases dv
  obtain ⟨r1, r2⟩ := rgOkB_ok hr
  exact ⟨_, rfl, r1, fun p n => k _ _ _ (x.trans (.new x.sub n)) (.tup (.of upd_same) (by rw [rng_len]; exact r2) (rgV_den _ _))⟩

/-! ### zip of two lists, of two tuples -/
def zipD : List PyData → List PyData → List PyData
  | a :: as, b :: bs => .tuple [a, b] :: zipD as bs
  | _, _ => []
theorem zipD_get : ∀ {as bs : List PyData} {i : Nat} {d : PyData}, (zipD as bs)[i]? = some d → ∃ a b, d = .tuple [a, b] ∧ as[i]? = some a ∧ bs[i]? = some b
  | [], _, _, _, h => by simp [zipD] at h
  | _ :: _, [], _, _, h => by simp [zipD] at h
  | a :: as, b :: bs, 0, d, h => by
    have e : PyData.tuple [a, b] = d := by simpa [zipD] using h
    exact ⟨a, b, e.symm, rfl, rfl⟩
  | a :: as, b :: bs, i + 1, d, h => zipD_get (as := as) (bs := bs) (i := i) (by simpa [zipD] using h)
theorem zipD_len : ∀ (as bs : List PyData), (zipD as bs).length = min as.length bs.length
  | [], bs => by cases bs <;> simp [zipD]
  | _ :: _, [] => by simp [zipD]
  | a :: as, b :: bs => by
    show (zipD as bs).length + 1 = _
    rw [zipD_len as bs, List.length_cons, List.length_cons]
    omega
def zip2D : List PyData → Option (List PyData)
  | [.list a, .list b] => some (zipD a b)
  | [.tuple a, .tuple b] => some (zipD a b)
  | _ => none
theorem new2 {K : PySem.W.Frag} {H1 H : Hp} {T : Addr} {x y : V} {d e : PyData} (s : Same H1 H) (n : H T = none) (dx : Den K H1 x d) (dy : Den K H1 y e) : Ext H1 H (upd H1 T (.tup [x, y])) (upd H T (.tup [x, y])) ∧ Den K (upd H1 T (.tup [x, y])) (.ref T) (.tuple [d, e]) :=
  ⟨.new s n, .tup (.of upd_same) (by show 2 ≤ sizeLine; decide) (DenL.mono (same_new (s.free n)) _ _ (.cons dx (.cons dy .nil)))⟩
theorem di_zip {elts : List Expr} {kk : Nat} {tpos : Pos} (ha : DA X [a, b] fs) (hg : Gl X "zip") (hm : X.mg "zip" = none) (hs : starEach [a, b] X.env = (false, eval a X.env) :: starEach [b] X.env := by rfl) (hpl : (backTo pos (starEach [b] X.env)).any (·.1) = false := by rfl) :
    DI X (.Tuple elts kk tpos) (.Call (.Name "zip" p) [a, b] [] pos) (eNL zip2D fs) := by
  obtain ⟨t, pt, q⟩ := ha
  refine ⟨_, RZ.pi_zipA hg hm pt hs hpl, fun σ H1 H ρ ds R s h k => ?_⟩
  obtain ⟨es, e1, h⟩ := bind_some h
  refine q σ H1 H ρ es _ s e1 fun vs H1' H' x dv => ?_
  unfold zip2D at h
  split at h
  · cases h
    cases dv with
    | cons d1 d2 =>
      cases d2 with
      | cons d2 d3 =>
        cases d3
        cases d1 with
        | lst hs1 hl1 dl1 =>
          cases d2 with
          | lst hs2 hl2 dl2 =>
            refine ⟨_, _, _, _, rfl, .inl ⟨x.sub.seq hs1, x.sub.seq hs2, k _ H1' H' x (by rw [zipD_len]; omega) ?_⟩⟩
            intro G1 G s1 s2 i
            refine ⟨fun d e => ?_, fun l => ?_⟩
            · obtain ⟨u, w, rfl, q1, q2⟩ := zipD_get e
              obtain ⟨v1, g1, z1⟩ := dl1.get q1
              obtain ⟨v2, g2, z2⟩ := dl2.get q2
              refine ⟨⟨_, _, v1, v2, (s1.trans s2).seq hs1, (s1.trans s2).seq hs2, g1, g2⟩, fun y G' hy => ?_⟩
              obtain ⟨T, y1, y2, rfl, nT, rfl, f1, f2⟩ := hy
              have b1 := f1 _ ((s1.trans s2).seq hs1)
              have b2 := f2 _ ((s1.trans s2).seq hs2)
              rw [g1] at b1
              rw [g2] at b2
              cases b1
              cases b2
              exact ⟨_, new2 s2 nT (Den.mono s1 _ _ z1) (Den.mono s1 _ _ z2)⟩
            · rw [zipD_len, ← dl1.length, ← dl2.length] at l
              exact ⟨_, _, (s1.trans s2).seq hs1, (s1.trans s2).seq hs2, by omega⟩
  · cases h
    cases dv with
    | cons d1 d2 =>
      cases d2 with
      | cons d2 d3 =>
        cases d3
        cases d1 with
        | tup hs1 hl1 dl1 =>
          cases d2 with
          | tup hs2 hl2 dl2 =>
            refine ⟨_, _, _, _, rfl, .inr ⟨sqT_mono x.sub hs1, sqT_mono x.sub hs2, k _ H1' H' x (by rw [zipD_len]; omega) ?_⟩⟩
            intro G1 G s1 s2 i
            refine ⟨fun d e => ?_, fun l => ?_⟩
            · obtain ⟨u, w, rfl, q1, q2⟩ := zipD_get e
              obtain ⟨v1, g1, z1⟩ := dl1.get q1
              obtain ⟨v2, g2, z2⟩ := dl2.get q2
              refine ⟨⟨_, _, v1, v2, sqT_mono (s1.trans s2) hs1, sqT_mono (s1.trans s2) hs2, g1, g2⟩, fun y G' hy => ?_⟩
              obtain ⟨T, y1, y2, rfl, nT, rfl, f1, f2⟩ := hy
              have b1 := f1 _ (sqT_mono (s1.trans s2) hs1)
              have b2 := f2 _ (sqT_mono (s1.trans s2) hs2)
              rw [g1] at b1
              rw [g2] at b2
              cases b1
              cases b2
              exact ⟨_, new2 s2 nT (Den.mono s1 _ _ z1) (Den.mono s1 _ _ z2)⟩
            · rw [zipD_len, ← dl1.length, ← dl2.length] at l
              exact ⟨_, _, sqT_mono (s1.trans s2) hs1, sqT_mono (s1.trans s2) hs2, by omega⟩
  · cases h

/-! ### lists that the def changes, read -/
def eLenM (i : Nat) : En → Option PyData := fun ρ => match ρ[i]? with
  | some (some (.ml ds)) => some (.int ds.length)
  | _ => none
def eIdxM (i : Nat) (f : En → Option PyData) : En → Option PyData := fun ρ => (f ρ).bind fun k => match k, ρ[i]? with
  | .int n, some (some (.ml ds)) => atI ds n
  | _, _ => none
def eTupM (i : Nat) : En → Option PyData := fun ρ => match ρ[i]? with
  | some (some (.ml ds)) => some (.tuple ds)
  | _ => none
theorem de_idxM (i : Nat) {x : Str} {px : Pos} (hb : DE X b fb) (hN : X.N[i]? = some x := by rfl) (hv : Vis X.env.scope x := by first | exact Or.inl rfl | exact Or.inr (Or.inl rfl) | exact Or.inr (Or.inr rfl)) (hd : (x == ("__debug__" : Str)) = false := by decide)
    (hcd : (x == ("__classdict__" : Str)) = false := by decide) (hs : PlainIx b := by exact fun _ _ => rfl) : DE X (.Subscript (.Name x px) b pos) (eIdxM i fb) := by
  obtain ⟨tb, pb, qb⟩ := hb
  refine ⟨_, pe_ix ix_list (pe_var hN hv hd hcd) pb hs, fun σ H1 H ρ d Q s h k => ?_⟩
  obtain ⟨kk, h1, h⟩ := bind_some h
  split at h
  · rename_i n ds em
    obtain ⟨A, vs, eσ, hA, nA, hl, dl⟩ := s.ml em
    refine ⟨_, eσ, qb σ H1 H ρ _ _ s h1 fun w H1' H' x dw => ?_⟩
    cases dw
    obtain ⟨nA', hA'⟩ := x.fr A _ hA nA
    obtain ⟨v, q1, q2⟩ := (DenL.mono x.st _ _ dl).at h
    exact ⟨A, vs, n, v, rfl, rfl, .of hA', q1, k v _ _ x q2⟩
  · cases h
theorem de_lenM (i : Nat) {x : Str} {px : Pos} (hg : Gl X "len") (hm : X.mg "len" = none) (hN : X.N[i]? = some x := by rfl) (hv : Vis X.env.scope x := by first | exact Or.inl rfl | exact Or.inr (Or.inl rfl) | exact Or.inr (Or.inr rfl)) (hd : (x == ("__debug__" : Str)) = false := by decide)
    (hcd : (x == ("__classdict__" : Str)) = false := by decide) (hst : starEach (.Name x px :: []) X.env = (false, eval (.Name x px) X.env) :: starEach [] X.env := by rfl) (hpl : (backTo pos (starEach [] X.env)).any (·.1) = false := by rfl) : DE X (.Call (.Name "len" p) [.Name x px] [] pos) (eLenM i) := by
  refine ⟨_, pe_callB call_len_seq hg hm PySem.boot_len (pa_cons (pe_var hN hv hd hcd) pa_nil hst) (he := hst) (hpl := hpl), fun σ H1 H ρ d Q s h k => ?_⟩
  unfold eLenM at h
  split at h
  · rename_i ds em
    cases h
    obtain ⟨A, vs, eσ, hA, nA, hl, dl⟩ := s.ml em
    refine ⟨_, eσ, A, vs, rfl, .inl (.of hA), ?_⟩
    rw [dl.length]
    exact k _ H1 H (.refl s.sub) (.int _)
  · cases h
theorem de_tupM (i : Nat) {x : Str} {px : Pos} (hg : Gl X "tuple") (hm : X.mg "tuple" = none) (hN : X.N[i]? = some x := by rfl) (hv : Vis X.env.scope x := by first | exact Or.inl rfl | exact Or.inr (Or.inl rfl) | exact Or.inr (Or.inr rfl)) (hd : (x == ("__debug__" : Str)) = false := by decide)
    (hcd : (x == ("__classdict__" : Str)) = false := by decide) (hst : starEach (.Name x px :: []) X.env = (false, eval (.Name x px) X.env) :: starEach [] X.env := by rfl) (hpl : (backTo pos (starEach [] X.env)).any (·.1) = false := by rfl) : DE X (.Call (.Name "tuple" p) [.Name x px] [] pos) (eTupM i) := by
  refine ⟨_, pe_callTy call_tuple_of hg hm boot_tuple (pa_cons (pe_var hN hv hd hcd) pa_nil hst) (he := hst) (hpl := hpl), fun σ H1 H ρ d Q s h k => ?_⟩
  unfold eTupM at h
  split at h
  · rename_i ds em
    cases h
    obtain ⟨A, vs, eσ, hA, nA, hl, dl⟩ := s.ml em
    refine ⟨_, eσ, A, vs, rfl, .inl ⟨.of hA, fun p n => ?_⟩⟩
    exact k _ _ _ (.new s.sub n) (.tup (.of upd_same) hl (DenL.mono (same_new (s.sub.free n)) _ _ dl))
  · cases h
/-- chains a < b < c -/
def eChain (g g' : PyData → PyData → Option PyData) (fa fb fc : En → Option PyData) : En → Option PyData := fun ρ => (fa ρ).bind fun d => (fb ρ).bind fun e => ((g d e).bind asB).bind fun b => if b = true then (fc ρ).bind fun c => ((g' e c).bind asB).map PyData.bool else some (.bool false)
end
end Dv

namespace Dv
open PySem PySem.Spec PyProof.Rows L2 HT

/-! ### xs[::-1] of a list, of a tuple -/
section
variable {prog : Program} {w : World} {A : Around} {E : Value → Shared → Prop} {s : Shared}
theorem sliceApplied_rev {sl : Addr} {vs : Value} {n : Nat} {Q : Int × Int × Nat → Shared → Prop} (hs : s.heap.IsSliceOf sl .none .none vs) (ps : IsPart vs (some (-1)))
    (h : Q ((n : Int) - 1, -1, n) s) : wpAny (model prog w) A (Builtin.Slice.sliceApplied (.ref sl) (pure (n : Int))) Q E s := by
  obtain ⟨os, hos, hcs, hds⟩ := id hs
  unfold Builtin.Slice.sliceApplied Builtin.Slice.sliceFields
  refine wpAny_bind (wpAny_bind (wpAny_field hos hds (x := .none) rfl (wpAny_bind (wpAny_field hos hds (x := .none) rfl (wpAny_bind (wpAny_field hos hds (x := vs) rfl (wpAny_pure ?_)))))))
  refine wpAny_bind (slicePart_ ps ?_)
  show wpAny _ _ (if ((-1 : Int) == 0) = true then _ else _) _ _ s
  rw [if_neg (by decide)]
  refine wpAny_bind (slicePart_none (wpAny_bind (slicePart_none (wpAny_bind (wpAny_pure ?_)))))
  show wpAny _ _ (pure (((n : Int) - 1, (-1 : Int), Builtin.Slice.slicePlaces ((n : Int) - 1) (-1) (-1)))) _ _ s
  have e : Builtin.Slice.slicePlaces ((n : Int) - 1) (-1) (-1) = n := by
    unfold Builtin.Slice.slicePlaces
    rw [if_neg (by decide)]
    by_cases h0 : (n : Int) - 1 > -1
    · rw [if_pos h0, show (- -1 : Int) = 1 by decide, Int.ediv_one]
      omega
    · rw [if_neg h0]; omega
  rw [e]
  exact wpAny_pure h
theorem pick_rev (xs : Array Value) : ((List.range xs.size).filterMap fun (k : Nat) => xs[((xs.size : Int) - 1 + (k : Int) * (-1)).toNat]?).toArray = xs.toList.reverse.toArray := by
  have e : (fun (k : Nat) => xs[((xs.size : Int) - 1 + (k : Int) * (-1)).toNat]?) = fun (k : Nat) => xs[((xs.size : Int) - 1 + (-1) * (k : Int)).toNat]? := by
    funext k
    rw [Int.mul_comm]
  rw [e]
  have q := PySem.W.krv_pick xs
  unfold slicePick at q
  rw [PySem.W.krv_bounds] at q
  have h2 : sliceRange ((xs.size : Int) - 1) (-1) (-1) = (List.range xs.size).map fun (k : Nat) => ((xs.size : Int) - 1 + (-1) * (k : Int)).toNat := by
    rw [PySem.W.krv_sliceRange]
    apply List.map_congr_left
    intro k hk
    have := List.mem_range.mp hk
    omega
  have q2 : ((sliceRange ((xs.size : Int) - 1) (-1) (-1)).filterMap (xs[·]?)).toArray = xs.toList.reverse.toArray := q
  rw [h2, List.filterMap_map] at q2
  exact q2
theorem getItem_tuple_rev {t sl : Addr} {items : Array Value} {vs : Value} {Q : Value → Shared → Prop} (ht : IsTup s.heap t items) (hs : s.heap.IsSliceOf sl .none .none vs) (ps : IsPart vs (some (-1)))
    (h : Q (.ref s.heap.objs.size) { s with heap := s.heap.push { cls := .type "tuple", data := .seq items.toList.reverse.toArray } })
    (hsz : items.size ≤ sizeLine) : wpAny (model prog w) A (getItem (.ref t) (.ref sl)) Q E s := by
  have htake : sizeOk (.seq items.toList.reverse.toArray) := by
    show items.toList.reverse.toArray.size ≤ sizeLine
    rw [List.size_toArray, List.length_reverse, Array.length_toList]
    exact hsz
  obtain ⟨os, hos, hcs, hds⟩ := id hs
  have hTs : s.TypeIs (.ref sl) "slice" := ⟨os, hos, hcs⟩
  unfold getItem
  try with_reducible refine wpAny_holding ?_
  first | refine wpAny_bind (wpAny_pure ?_) | skip
  refine wpAny_bind (wpAny_sequenceKey ht.typeIs (by decide) ?_)
  refine wpAny_bind (wpAny_callSpecial?_slot (name := Str.ofString "__getitem__") ht.typeIs PyProof.Rows.slot_tuple_getitem
    (wpAny_call_entry PyProof.Rows.slot_tuple_getitem ht.typeIs entry_tuple_getitem ?_ (args_tuple_getitem _ _)))
  show wpAny _ _ (Builtin.Tuple.tupleItemsOf (.ref t) >>= _) _ _ s
  refine wpAny_bind (tupleItemsOf_ ht ?_)
  refine wpAny_bind (wpAny_typeOf hTs ?_)
  rw [if_pos (by decide)]
  refine wpAny_bind (sliceApplied_rev hs ps ?_)
  have hno : ¬ ((((items.size : Int) - 1) == 0 && (-1 : Int) == 1 && items.size == items.size) = true) := by
    rw [show ((-1 : Int) == 1) = false from by decide, Bool.and_false, Bool.false_and]
    exact Bool.false_ne_true
  show wpAny _ _ (if (((items.size : Int) - 1) == 0 && (-1 : Int) == 1 && items.size == items.size) = true then _ else _) _ _ s
  rw [if_neg hno, pick_rev]
  first
    | exact wpAny_bind (m := Builtin.Tuple.tupleExact _) (wpAny_newObj_type (wpAny_pure ⟨_, rfl, wpAny_pure h⟩) htake)
    | exact wpAny_bind (m := Builtin.Tuple.tupleExact _) (wpAny_newObj_type (wpAny_bind (wpAny_pure (wpAny_pure ⟨_, rfl, wpAny_pure h⟩))) htake)
    | exact wpAny_bind (wpAny_bind (m := Builtin.Tuple.tupleExact _) (wpAny_newObj_type (wpAny_pure (wpAny_pure ⟨_, rfl, wpAny_pure h⟩)) htake))
    | exact wpAny_bind (wpAny_bind (m := Builtin.Tuple.tupleExact _) (wpAny_newObj_type (wpAny_pure ⟨_, rfl, wpAny_pure h⟩) htake))
end
section
variable {X : Cx} {a b c e : Expr} {es : List Expr} {fa fb fc f : En → Option PyData} {fs : En → Option (List PyData)} {pos p : Pos} {x : Str} {tg : Expr} {tf : En → Option Bool}
/-- xs[lo::st] of a list by constants, t[::-1] of a tuple -/
def stepL {α : Type} (lo st : Option Int) (ds : List α) : List α := (sliceRange (sliceBounds lo none st ds.length).1 (sliceBounds lo none st ds.length).2.1 (sliceBounds lo none st ds.length).2.2).filterMap (ds[·]?)
def tStL (K : PySem.W.Frag) (lo st : Option Int) (te : TE) : TE := fun σ H Q => te σ H fun x H1 => ∃ a xs, x = .ref a ∧ SqL K H1 a xs ∧ ∀ p, H1 p = none → Q (.ref p) (upd H1 p (.lst (stepL lo st xs)))
theorem vals_fil {xs : List V} {us : List Value} (h : Vals xs us) : ∀ is : List Nat, Vals (is.filterMap (xs[·]?)) (is.filterMap (us[·]?))
  | [] => .nil
  | i :: is => by
    rw [List.filterMap_cons, List.filterMap_cons]
    cases e : xs[i]? with
    | some x =>
      obtain ⟨u, hu, ru⟩ := h.get e
      rw [hu]
      exact .cons ru (vals_fil h is)
    | none =>
      have l := List.getElem?_eq_none_iff.mp e
      rw [h.length] at l
      rw [List.getElem?_eq_none l]
      exact vals_fil h is
theorem denL_fil {K : PySem.W.Frag} {H : Hp} {vs : List V} {ds : List PyData} (h : DenL K H vs ds) : ∀ is : List Nat, DenL K H (is.filterMap (vs[·]?)) (is.filterMap (ds[·]?))
  | [] => .nil
  | i :: is => by
    rw [List.filterMap_cons, List.filterMap_cons]
    cases e : ds[i]? with
    | some x =>
      obtain ⟨u, hu, ru⟩ := h.get e
      rw [hu]
      exact .cons ru (denL_fil h is)
    | none =>
      have l := List.getElem?_eq_none_iff.mp e
      rw [← h.length] at l
      rw [List.getElem?_eq_none l]
      exact denL_fil h is
theorem stepL_len {α : Type} (lo st : Option Int) (ds : List α) : (stepL lo st ds).length ≤ ds.length := by
  have h := slicePick_size_le (ds.map fun _ => Value.none).toArray lo none st
  unfold slicePick at h
  unfold stepL
  rw [List.size_toArray] at h
  have e : ∀ is : List Nat, (is.filterMap (ds[·]?)).length = (is.filterMap ((ds.map fun _ => Value.none).toArray[·]?)).length := by
    intro is
    induction is with
    | nil => rfl
    | cons i is ih =>
      rw [List.filterMap_cons, List.filterMap_cons]
      rw [List.getElem?_toArray, List.getElem?_map]
      cases ds[i]? with
      | none => exact ih
      | some x => exact congrArg Nat.succ ih
  rw [e]
  have z : (ds.map fun _ => Value.none).toArray.size = ds.length := by simp
  rw [z] at h
  exact h
theorem pe_stL {olo : Option Expr} {ost : Option Expr} {lo st : Option Int} {te : TE} {p3 : Pos} (he : PE X e te) (h0 : st ≠ some 0)
    (hlo : ∀ (pins : List (Addr × Obj)) (s : Shared) (σ : L2.St) (H : Hp) (Q : Value → Shared → Prop), Inv X pins σ H s → (∀ v s', Inv X pins σ H s' → IsPart v lo → Q v s') → wpAny (model X.prog X.w) X.A (evalPart olo X.env) Q X.xe s)
    (hst : ∀ (pins : List (Addr × Obj)) (s : Shared) (σ : L2.St) (H : Hp) (Q : Value → Shared → Prop), Inv X pins σ H s → (∀ v s', Inv X pins σ H s' → IsPart v st → Q v s') → wpAny (model X.prog X.w) X.A (evalPart ost X.env) Q X.xe s)
    (hgo : ∀ x o, subscripted (.Slice olo none ost p3) false x o = operate [x, o] (getItem x o) := by intro _ _; with_unfolding_all rfl) : PE X (.Subscript e (.Slice olo none ost p3) pos) (tStL X.K lo st te) := by
  refine ⟨fun pins s σ H Q I h => ?_⟩
  refine Subscript_ (thn (he.run pins s σ H _ I h) fun v s1 ⟨x, H1, I1, r1, q1⟩ => ?_)
  obtain ⟨a, xs, ex, hx, q⟩ := q1
  subst ex
  cases r1
  refine wpAny_Slice (hlo pins s1 σ H1 _ I1 fun vl s2 I2 pl => ?_)
  refine thn (po_none.run pins s2 σ H1 (fun o H3 => o = none ∧ H3 = H1) I2 ⟨rfl, rfl⟩) fun vu s3 ⟨u, H3, I3, pu, eu, e3⟩ => ?_
  subst eu e3
  refine hst pins s3 σ H3 _ I3 fun vs s4 I4 ps => ?_
  have I5 : Inv X pins σ H3 { s4 with heap := s4.heap.push { cls := .type "slice", data := .fields #[vl, vu, vs] } } := I4.kept (t' := s4.toks) fun b ob q => Heap.get?_push_of_some _ q
  obtain ⟨its, r, ht, hz⟩ := I5.list hx
  have hlen := r.length
  show wpAny (model X.prog X.w) X.A (subscriptTail e (.Slice olo none ost p3) (.ref a) (.ref s4.heap.objs.size)) (EP X pins σ Q) X.xe { s4 with heap := s4.heap.push { cls := .type "slice", data := .fields #[vl, vu, vs] } }
  refine tail_any (ops := [.ref a, .ref s4.heap.objs.size]) ht.isList.typeIs (PySem.slot_list_getitem.lookup) ?_ (hgo _ _)
  refine wpAny_getItem_list_slice ht.isList (Heap.IsSliceOf.new _ vl vu vs) pl pu ps h0 ?_ (by rw [List.size_toArray]; omega)
  have ep : slicePick its.toArray lo none st = (stepL lo st its).toArray := by
    unfold slicePick stepL
    rw [List.size_toArray]
    have ef : (fun (k : Nat) => its.toArray[k]?) = fun (k : Nat) => its[k]? := by
      funext k
      rw [List.getElem?_toArray]
    rw [ef]
  rw [ep]
  refine ⟨.ref _, _, I5.laid (t' := s4.toks) (o := .lst (stepL lo st xs)) (fun b ob q => Heap.get?_push_of_some _ q) (Nat.le_refl _) ?_, rfl, q _ (I5.hok.fresh (Nat.le_refl _))⟩
  have ex : Vals (stepL lo st xs) (stepL lo st its) := by
    unfold stepL
    rw [← hlen]
    exact vals_fil r _
  exact ⟨Nat.le_trans (stepL_len _ _ _) (by omega), _, 0, ex, Heap.get?_push_size _ rfl⟩
def stD (lo st : Option Int) : PyData → Option PyData
  | .list ds => some (.list (stepL lo st ds))
  | _ => none
theorem part_none {pins : List (Addr × Obj)} {s : Shared} {σ : L2.St} {H : Hp} {Q : Value → Shared → Prop} (I : L2.Inv X pins σ H s) (k : ∀ v s', L2.Inv X pins σ H s' → IsPart v none → Q v s') : wpAny (model X.prog X.w) X.A (evalPart none X.env) Q X.xe s :=
  thn (po_none.run pins s σ H (fun o H3 => o = none ∧ H3 = H) I ⟨rfl, rfl⟩) fun vu s3 ⟨u, H3, I3, pu, eu, e3⟩ => by
    subst eu e3
    exact k vu s3 I3 pu
theorem part_int {i : Int} {kk pos} {pins : List (Addr × Obj)} {s : Shared} {σ : L2.St} {H : Hp} {Q : Value → Shared → Prop} (I : L2.Inv X pins σ H s) (k : ∀ v s', L2.Inv X pins σ H s' → IsPart v (some i) → Q v s') : wpAny (model X.prog X.w) X.A (evalPart (some (.Constant (.int i) kk pos)) X.env) Q X.xe s :=
  thn ((po_some (pe_int (X := X) (i := i) (j := kk) (pos := pos))).run pins s σ H (fun o H3 => o = some i ∧ H3 = H) I ⟨i, rfl, rfl, rfl⟩) fun vu s3 ⟨u, H3, I3, pu, eu, e3⟩ => by
    subst eu e3
    exact k vu s3 I3 pu
theorem part_neg {i : Int} {kk pos p2} {pins : List (Addr × Obj)} {s : Shared} {σ : L2.St} {H : Hp} {Q : Value → Shared → Prop} (I : L2.Inv X pins σ H s) (k : ∀ v s', L2.Inv X pins σ H s' → IsPart v (some (-i)) → Q v s') : wpAny (model X.prog X.w) X.A (evalPart (some (.UnaryOp .USub (.Constant (.int i) kk pos) p2)) X.env) Q X.xe s :=
  thn ((po_some (pe_un (X := X) un_neg (pe_int (i := i) (j := kk) (pos := pos)))).run pins s σ H (fun o H3 => o = some (-i) ∧ H3 = H) I ⟨i, rfl, -i, rfl, rfl, rfl⟩) fun vu s3 ⟨u, H3, I3, pu, eu, e3⟩ => by
    subst eu e3
    exact k vu s3 I3 pu
theorem den_stL {K : PySem.W.Frag} {H : Hp} {xs : List V} {ds : List PyData} (lo st : Option Int) (dl : DenL K H xs ds) : DenL K H (stepL lo st xs) (stepL lo st ds) := by
  unfold stepL
  rw [dl.length]
  exact denL_fil dl _
theorem de_stL {olo ost : Option Expr} {lo st : Option Int} {p3 : Pos} (he : DE X e f) (h0 : st ≠ some 0)
    (hlo : ∀ (pins : List (Addr × Obj)) (s : Shared) (σ : L2.St) (H : Hp) (Q : Value → Shared → Prop), L2.Inv X pins σ H s → (∀ v s', L2.Inv X pins σ H s' → IsPart v lo → Q v s') → wpAny (model X.prog X.w) X.A (evalPart olo X.env) Q X.xe s)
    (hst : ∀ (pins : List (Addr × Obj)) (s : Shared) (σ : L2.St) (H : Hp) (Q : Value → Shared → Prop), L2.Inv X pins σ H s → (∀ v s', L2.Inv X pins σ H s' → IsPart v st → Q v s') → wpAny (model X.prog X.w) X.A (evalPart ost X.env) Q X.xe s)
    (hgo : ∀ x o, subscripted (.Slice olo none ost p3) false x o = operate [x, o] (getItem x o) := by intro _ _; with_unfolding_all rfl) : DE X (.Subscript e (.Slice olo none ost p3) pos) (Dv.e1 (stD lo st) f) := by
  obtain ⟨t, pt, q⟩ := he
  refine ⟨_, pe_stL pt h0 hlo hst hgo, fun σ H1 H ρ d Q s h k => ?_⟩
  obtain ⟨d1, h1, h⟩ := bind_some h
  refine q σ H1 H ρ d1 _ s h1 fun v H1' H' x dv => ?_
  cases d1 <;> try (cases h)
  cases dv with
  | lst hs hl dl => exact ⟨_, _, rfl, x.sub.seq hs, fun p n => k _ _ _ (x.trans (.new x.sub n)) (.lst (.of upd_same) (Nat.le_trans (stepL_len _ _ _) hl) (DenL.mono (same_new (x.sub.free n)) _ _ (den_stL lo st dl)))⟩
theorem de_step2 {lo : Int} {k1 p1 k2 p2 p3} (he : DE X e f) (hgo : ∀ x o, subscripted (.Slice (some (.Constant (.int lo) k1 p1)) none (some (.Constant (.int 2) k2 p2)) p3) false x o = operate [x, o] (getItem x o) := by intro _ _; with_unfolding_all rfl) :
    DE X (.Subscript e (.Slice (some (.Constant (.int lo) k1 p1)) none (some (.Constant (.int 2) k2 p2)) p3) pos) (Dv.e1 (stD (some lo) (some 2)) f) :=
  de_stL he (by decide) (fun pins s σ H Q I k => part_int I k) (fun pins s σ H Q I k => part_int I k) hgo

/-! ### [::-1] of both -/
def revD : PyData → Option PyData
  | .list ds => some (.list ds.reverse)
  | .tuple ds => some (.tuple ds.reverse)
  | _ => none
def tRevA (K : PySem.W.Frag) (te : TE) : TE := fun σ H Q => te σ H fun x H1 => ∃ a xs, x = .ref a ∧ ((SqL K H1 a xs ∧ ∀ p, H1 p = none → Q (.ref p) (upd H1 p (.lst xs.reverse))) ∨ (SqT K H1 a xs ∧ ∀ p, H1 p = none → Q (.ref p) (upd H1 p (.tup xs.reverse))))
theorem pe_revA {te : TE} {k : Nat} {p1 p2 p3 : Pos} (he : PE X e te) : PE X (.Subscript e (.Slice none none (some (.UnaryOp .USub (.Constant (.int 1) k p1) p2)) p3) pos) (tRevA X.K te) := by
  refine ⟨fun pins s σ H Q I h => ?_⟩
  refine Subscript_ (thn (he.run pins s σ H _ I h) fun v s1 ⟨x, H1, I1, r1, q1⟩ => ?_)
  obtain ⟨a, xs, ex, hq⟩ := q1
  subst ex
  cases r1
  refine wpAny_Slice (part_none I1 fun vl s2 I2 pl => part_none I2 fun vu s3 I3 pu => part_neg I3 fun vs s4 I4 ps => ?_)
  have I5 : L2.Inv X pins σ H1 { s4 with heap := s4.heap.push { cls := .type "slice", data := .fields #[vl, vu, vs] } } := I4.kept (t' := s4.toks) fun b ob q => Heap.get?_push_of_some _ q
  show wpAny (model X.prog X.w) X.A (subscriptTail e (.Slice none none (some (.UnaryOp .USub (.Constant (.int 1) k p1) p2)) p3) (.ref a) (.ref s4.heap.objs.size)) (EP X pins σ Q) X.xe { s4 with heap := s4.heap.push { cls := .type "slice", data := .fields #[vl, vu, vs] } }
  rcases hq with ⟨hx, q⟩ | ⟨hx, q⟩
  · obtain ⟨its, r, ht, hz⟩ := I5.list hx
    have hlen := r.length
    refine tail_any (ops := [.ref a, .ref s4.heap.objs.size]) ht.isList.typeIs (PySem.slot_list_getitem.lookup) ?_ (by with_unfolding_all rfl)
    refine wpAny_getItem_list_slice ht.isList (Heap.IsSliceOf.new _ vl vu vs) pl pu ps (by decide) ?_ (by rw [List.size_toArray]; omega)
    rw [PySem.W.krv_pick]
    refine ⟨.ref _, _, I5.laid (t' := s4.toks) (o := .lst xs.reverse) (fun b ob q => Heap.get?_push_of_some _ q) (Nat.le_refl _) ?_, rfl, q _ (I5.hok.fresh (Nat.le_refl _))⟩
    exact ⟨by rw [List.length_reverse]; exact hz, _, 0, r.reverse, Heap.get?_push_size _ rfl⟩
  · obtain ⟨its, r, ht, hz⟩ := I5.tuple hx
    have hlen := r.length
    cases pl
    cases pu
    refine tail_any (ops := [.ref a, .ref s4.heap.objs.size]) ht.typeIs (PyProof.Rows.slot_tuple_getitem.lookup) ?_ (by with_unfolding_all rfl)
    refine getItem_tuple_rev ht (Heap.IsSliceOf.new _ .none .none vs) ps ?_ (by rw [List.size_toArray]; omega)
    refine ⟨.ref _, _, I5.laid (t' := s4.toks) (o := .tup xs.reverse) (fun b ob q => Heap.get?_push_of_some _ q) (Nat.le_refl _) ?_, rfl, q _ (I5.hok.fresh (Nat.le_refl _))⟩
    exact ⟨by rw [List.length_reverse]; exact hz, its.reverse, r.reverse, IsTup.new _ _⟩
theorem de_rev {k : Nat} {p1 p2 p3 : Pos} (he : DE X e f) : DE X (.Subscript e (.Slice none none (some (.UnaryOp .USub (.Constant (.int 1) k p1) p2)) p3) pos) (Dv.e1 revD f) := by
  obtain ⟨t, pt, q⟩ := he
  refine ⟨_, pe_revA pt, fun σ H1 H ρ d Q s h k => ?_⟩
  obtain ⟨d1, h1, h⟩ := bind_some h
  refine q σ H1 H ρ d1 _ s h1 fun v H1' H' x dv => ?_
  cases d1 <;> try (cases h)
  all_goals cases dv
  · rename_i hs hl dl
    exact ⟨_, _, rfl, .inl ⟨x.sub.seq hs, fun p n => k _ _ _ (x.trans (.new x.sub n)) (.lst (.of upd_same) (by rw [List.length_reverse]; exact hl) (DenL.mono (same_new (x.sub.free n)) _ _ dl.reverse))⟩⟩
  · rename_i hs hl dl
    exact ⟨_, _, rfl, .inr ⟨sqT_mono x.sub hs, fun p n => k _ _ _ (x.trans (.new x.sub n)) (.tup (.of upd_same) (by rw [List.length_reverse]; exact hl) (DenL.mono (same_new (x.sub.free n)) _ _ dl.reverse))⟩⟩

/-! ### a < b < c -/
theorem bool_v {v : V} {b : Bool} {K : PySem.W.Frag} {H : Hp} (h : Den K H v (.bool b)) : v = .bl b := by cases h; rfl
theorem chain_read {r r' : R2} {g g' : PyData → PyData → Option PyData} (hr : V2 X.K r g) (hr' : V2 X.K r' g') {ta tb tc : TE}
    (qa : ∀ (σ : L2.St) (H1 H : Hp) (ρ : En) (d : PyData) (Q : VK), Sok X.K H1 H σ ρ → fa ρ = some d → (∀ v H1' H', Ext H1 H H1' H' → Den X.K H1' v d → Q v H') → ta σ H Q)
    (qb : ∀ (σ : L2.St) (H1 H : Hp) (ρ : En) (d : PyData) (Q : VK), Sok X.K H1 H σ ρ → fb ρ = some d → (∀ v H1' H', Ext H1 H H1' H' → Den X.K H1' v d → Q v H') → tb σ H Q)
    (qc : ∀ (σ : L2.St) (H1 H : Hp) (ρ : En) (d : PyData) (Q : VK), Sok X.K H1 H σ ρ → fc ρ = some d → (∀ v H1' H', Ext H1 H H1' H' → Den X.K H1' v d → Q v H') → tc σ H Q)
    (σ : L2.St) (H1 H : Hp) (ρ : En) (d : PyData) (Q : VK) (s : Sok X.K H1 H σ ρ) (h : eChain g g' fa fb fc ρ = some d) (k : ∀ v H1' H', Ext H1 H H1' H' → Den X.K H1' v d → Q v H') : tChain r r' ta tb tc σ H Q := by
  obtain ⟨d1, h1, h⟩ := bind_some h
  obtain ⟨d2, h2, h⟩ := bind_some h
  obtain ⟨b, h3, h⟩ := bind_some h
  obtain ⟨d3, h3, hb⟩ := bind_some h3
  have e := asB_some hb
  subst e
  refine qa σ H1 H ρ d1 _ s h1 fun v H1' H' x1 q1 => qb σ H1' H' ρ d2 _ (s.ext x1) h2 fun w H2 H2' x2 q2 => hr v w d1 d2 _ H2 H2' _ x2.sub (Den.mono x2.st _ _ q1) q2 h3 fun z H3 H3' x3 q3 => ⟨b, bool_v q3, ?_⟩
  have x4 := (x1.trans x2).trans x3
  cases b with
  | false =>
    cases h
    exact k _ _ _ x4 (.bl _)
  | true =>
    obtain ⟨d4, h4, h⟩ := bind_some h
    obtain ⟨b', h5, rfl⟩ := map_some h
    obtain ⟨d5, h5, hb5⟩ := bind_some h5
    have e5 := asB_some hb5
    subst e5
    exact qc σ H3 H3' ρ d4 _ (s.ext x4) h4 fun u H4 H4' x5 q5 => hr' w u d2 d4 _ H4 H4' Q x5.sub (Den.mono (x3.st.trans x5.st) _ _ q2) q5 h5 fun z H5 H5' x6 q6 => k z _ _ ((x4.trans x5).trans x6) q6
theorem de_chain {op op' : CmpOp} {r r' : R2} {g g' : PyData → PyData → Option PyData} (ho : OpR X (compareOp op) r) (hr : V2 X.K r g) (ho' : OpR X (compareOp op') r') (hr' : V2 X.K r' g') (ha : DE X a fa) (hb : DE X b fb) (hc : DE X c fc)
    (hm : lastMarks [op, op'] [b, c] = false := by with_unfolding_all rfl) : DE X (.Compare a [op, op'] [b, c] pos) (eChain g g' fa fb fc) := by
  obtain ⟨ta, pa, qa⟩ := ha
  obtain ⟨tb, pb, qb⟩ := hb
  obtain ⟨tc, pc, qc⟩ := hc
  exact ⟨_, pe_chain ho ho' pa pb pc hm, chain_read hr hr' qa qb qc⟩
theorem dt_chain {op op' : CmpOp} {r r' : R2} {g g' : PyData → PyData → Option PyData} (ho : OpR X (compareOp op) r) (hr : V2 X.K r g) (ho' : OpR X (compareOp op') r') (hr' : V2 X.K r' g') (ha : DE X a fa) (hb : DE X b fb) (hc : DE X c fc)
    (hm : lastMarks [op, op'] [b, c] = false := by with_unfolding_all rfl) : DT X (.Compare a [op, op'] [b, c] pos) (tB (eChain g g' fa fb fc)) := by
  obtain ⟨ta, pa, qa⟩ := ha
  obtain ⟨tb, pb, qb⟩ := hb
  obtain ⟨tc, pc, qc⟩ := hc
  refine ⟨_, pt_chain ho ho' pa pb pc hm, fun σ H1 H ρ d Q s h k => ?_⟩
  obtain ⟨d0, h, hb'⟩ := bind_some h
  have e := asB_some hb'
  subst e
  exact chain_read hr hr' qa qb qc σ H1 H ρ _ _ s h fun v H2 H2' x2 dv => ⟨d, bool_v dv, k H2 H2' x2⟩
end
end Dv

namespace Dv
open PySem PySem.Spec PyProof.Rows L2 HT

/-! ### range with a step (-1 or 2) -/
def rngC (lo c : Int) (n : Nat) : List PyData := (List.range n).map fun i => .int (lo + (i : Nat) * c)
theorem rngC_len (lo c : Int) (n : Nat) : (rngC lo c n).length = n := by unfold rngC; rw [List.length_map, List.length_range]
def rg3n (i j c : Int) : Option Nat := if i.natAbs ≤ 4194304 ∧ j.natAbs ≤ 4194304 then (if c = -1 then some (i - j).toNat else if c = 2 then some ((j - i + 1).toNat / 2) else none) else none
theorem rg3n_ok {i j c : Int} {n : Nat} (h : rg3n i j c = some n) : RgC i j c n ∧ n ≤ 16777216 := by
  unfold rg3n at h
  split at h
  · rename_i hb
    split at h
    · rename_i hc
      cases h
      subst hc
      exact ⟨.neg (by omega) (by omega) (by omega) (by omega), by omega⟩
    · split at h
      · rename_i hc
        cases h
        subst hc
        have e : Builtin.Range.rangeSize i j 2 = (((j - i + 1).toNat / 2 : Nat) : Int) := by
          unfold Builtin.Range.rangeSize
          rw [if_pos (by decide)]
          by_cases hij : i < j
          · rw [if_pos hij]; omega
          · rw [if_neg hij]; omega
        refine ⟨⟨by decide, by decide, ?_, e⟩, by omega⟩
        unfold Builtin.Range.small
        rw [e]
        simp only [Builtin.Range.rangeFitsLong, Bool.and_eq_true, Bool.or_eq_true, decide_eq_true_eq, beq_iff_eq, show (2 : Int) > 0 by decide, if_true]
        omega
      · cases h
  · cases h
def rg3 (ds : List PyData) : Option (List PyData) := match ds with
  | [.int i, .int j, .int c] => (rg3n i j c).map fun n => rngC i c n
  | _ => none
theorem walks_rngC {K : PySem.W.Frag} {H1 : Hp} (lo c : Int) (n : Nat) : Walks K (Itc lo c n) H1 (rngC lo c n) := fun H1' H' s1 s2 i => by
  refine ⟨fun d e => ?_, fun l => by rw [rngC_len] at l; exact l⟩
  have hl : i < n := by
    have := (List.getElem?_eq_some_iff.mp e).1
    rwa [rngC_len] at this
  unfold rngC at e
  rw [List.getElem?_map, List.getElem?_range hl] at e
  cases e
  refine ⟨hl, fun x H'' y => ?_⟩
  obtain ⟨rfl, rfl⟩ := y
  exact ⟨H1', .refl s2, .int _⟩
section
variable {X : Cx} {a b c e : Expr} {es : List Expr} {fa fb fc f : En → Option PyData} {fs : En → Option (List PyData)} {pos p : Pos} {x : Str} {tg : Expr} {tf : En → Option Bool}
theorem den_ints3 {K : PySem.W.Frag} {H : Hp} {vs : List V} {i j c : Int} (h : DenL K H vs [.int i, .int j, .int c]) : vs = [.int i, .int j, .int c] := by
  have e := DenL.ints_of (ns := [i, j, c]) h
  exact e
theorem di_range3 (ha : DA X [a, b, c] fs) (hg : Gl X "range") (hm : X.mg "range" = none) (hs : starEach [a, b, c] X.env = (false, eval a X.env) :: starEach [b, c] X.env := by rfl) (hpl : (backTo pos (starEach [b, c] X.env)).any (·.1) = false := by rfl) : DI X tg (.Call (.Name "range" p) [a, b, c] [] pos) (eNL rg3 fs) := by
  obtain ⟨t, pt, q⟩ := ha
  refine ⟨_, pi_range3 hg hm pt hs hpl, fun σ H1 H ρ ds R s e k => ?_⟩
  obtain ⟨es, e1, e⟩ := bind_some e
  refine q σ H1 H ρ es _ s e1 fun vs H1' H' x dv => ?_
  unfold rg3 at e
  split at e
  · rename_i i j c
    obtain ⟨n, e2, rfl⟩ := map_some e
    obtain ⟨r1, r2⟩ := rg3n_ok e2
    exact ⟨i, j, c, n, den_ints3 dv, r1, k _ H1' H' x (by rw [rngC_len, sizeLine_eq]; omega) (walks_rngC i c n)⟩
  · cases e

/-! ### tuple(range(a, b, c)) -/
theorem vals_rgC {lo c : Int} {n : Nat} {acc : Array Value} (h : ItemsOf (fun i v => ∃ t, v = .int (lo + i * c) t) acc n) : Vals ((List.range n).map fun i => V.int (lo + (i : Nat) * c)) acc.toList := by
  have e : acc.toList.length = n := by rw [Array.length_toList]; exact h.1
  rw [← e]
  refine vals_of_get acc.toList _ fun j u hj => ?_
  obtain ⟨t, rfl⟩ := h.2 j u (by rw [← hj, Array.getElem?_toList])
  exact ⟨t, rfl⟩
theorem den_rgC {K : PySem.W.Frag} {H : Hp} (lo c : Int) (n : Nat) : DenL K H ((List.range n).map fun i => V.int (lo + (i : Nat) * c)) (rngC lo c n) := by
  unfold rngC
  generalize List.range n = l
  induction l with
  | nil => exact .nil
  | cons i l ih => exact .cons (.int _) ih
def tTupRg3 (ta : TA) : TE := fun σ H Q => ta σ H fun vs H1 => ∃ (i j c : Int) (n : Nat), vs = [.int i, .int j, .int c] ∧ RgC i j c n ∧ n ≤ 2 ^ 24 ∧ ∀ q, H1 q = none → Q (.ref q) (upd H1 q (.tup ((List.range n).map fun i' => V.int (i + (i' : Nat) * c))))
theorem pe_tupRg3 {ta : TA} {p1 p2 : Pos} (hc : X.calm = true) (hg : Gl X "tuple") (hm : X.mg "tuple" = none) (hg2 : Gl X "range") (hm2 : X.mg "range" = none) (ha : PA X [a, b, c] ta)
    (hs : starEach [a, b, c] X.env = (false, eval a X.env) :: starEach [b, c] X.env) (hpl : (backTo p2 (starEach [b, c] X.env)).any (·.1) = false)
    (na : starEach [.Call (.Name "range" p1) [a, b, c] [] p2] X.env = (false, eval (.Call (.Name "range" p1) [a, b, c] [] p2) X.env) :: starEach [] X.env) : PE X (.Call (.Name "tuple" p) [.Call (.Name "range" p1) [a, b, c] [] p2] [] pos) (tTupRg3 ta) := by
  refine ⟨fun pins s σ H Q I h => ?_⟩
  refine Call_ (ld_blt I hg hm boot_tuple (PyProof.Rows.callWith_type1 (args_cons ?_ na) na))
  refine Call_ (ld_blt I hg2 hm2 boot_range (PyProof.Rows.callWith_type1 (thn (ha.run p2 pins s σ H _ I h) fun us s1 ⟨vs, H1, I1, r1, q1⟩ => ?_) hs hpl))
  obtain ⟨i, j, k, n, e, ⟨c0, c1, c2, c3⟩, hn, q⟩ := q1
  subst e
  cases r1 with
  | cons r rr =>
    cases rr with
    | cons r' rr =>
      cases rr with
      | cons r'' rr =>
        cases rr
        obtain ⟨t, rfl⟩ := r
        obtain ⟨t', rfl⟩ := r'
        obtain ⟨t'', rfl⟩ := r''
        refine call_range_3 c0 (args_nil ?_) (.inl (PyProof.noPylong_small c1))
        have I2 : L2.Inv X pins σ H1 { s1 with heap := s1.heap.push { cls := .type "range", data := .fields #[.int i t, .int j t', .int k t''] } } := I1.kept (t' := s1.toks) fun b o e => Heap.get?_push_of_some _ e
        refine call_tuple_range (n := n) (I2.ok.hd hc) (IsRange.new ..) c2 c3 hn fun h' tk acc hk hi => ?_
        have I3 : L2.Inv X pins σ H1 { s1 with heap := h', toks := tk } := I2.kept hk
        refine ⟨.ref h'.objs.size, _, I3.laid (t' := tk) (fun c o e => Heap.get?_push_of_some _ e) (Nat.le_refl _) (show ObjOk X.prog X.w _ _ _ (.tup ((List.range n).map fun i' => V.int (i + (i' : Nat) * k))) from ⟨?_, acc.toList, vals_rgC hi, ?_⟩), rfl, q _ (I3.hok.fresh (Nat.le_refl _))⟩
        · rw [List.length_map, List.length_range, sizeLine_eq]; omega
        · rw [Array.toArray_toList]; exact IsTup.new _ _
def rg3T (ds : List PyData) : Option PyData := (rg3 ds).map PyData.tuple
theorem de_tupRg3 {p1 p2 : Pos} (hc : X.calm = true) (hg : Gl X "tuple") (hm : X.mg "tuple" = none) (hg2 : Gl X "range") (hm2 : X.mg "range" = none) (ha : DA X [a, b, c] fs)
    (hs : starEach [a, b, c] X.env = (false, eval a X.env) :: starEach [b, c] X.env := by rfl) (hpl : (backTo p2 (starEach [b, c] X.env)).any (·.1) = false := by rfl)
    (na : starEach [.Call (.Name "range" p1) [a, b, c] [] p2] X.env = (false, eval (.Call (.Name "range" p1) [a, b, c] [] p2) X.env) :: starEach [] X.env := by rfl) : DE X (.Call (.Name "tuple" p) [.Call (.Name "range" p1) [a, b, c] [] p2] [] pos) (eN rg3T fs) := by
  obtain ⟨t, pt, q⟩ := ha
  refine ⟨_, pe_tupRg3 hc hg hm hg2 hm2 pt hs hpl na, fun σ H1 H ρ d Q s h k => ?_⟩
  obtain ⟨es, e1, h⟩ := bind_some h
  refine q σ H1 H ρ es _ s e1 fun vs H1' H' x dv => ?_
  unfold rg3T at h
  obtain ⟨rs, hz, rfl⟩ := map_some h
  clear h
  unfold rg3 at hz
  split at hz
  · rename_i i j c
    obtain ⟨n, e2, e3⟩ := map_some hz
    subst e3
    obtain ⟨r1, r2⟩ := rg3n_ok e2
    exact ⟨i, j, c, n, den_ints3 dv, r1, r2, fun p n => k _ _ _ (x.trans (.new x.sub n)) (.tup (.of upd_same) (by rw [rngC_len, sizeLine_eq]; omega) (den_rgC _ _ _))⟩
  · cases hz
end

/-! ### min, max, sum of a list or a tuple of ints -/
section
variable {prog : Program} {w : World} {A : Around} {E : Value → Shared → Prop} {s : Shared} {t : Addr} {its : List Value} {ns : List Int} {Q : Value → Shared → Prop}
theorem min_tupRaw (hh : A.handled = none) (ht : s.heap.IsTuple t its.toArray) (hi : IntsAre its ns) (hne : 0 < ns.length)
    (h : ∀ h' tk M t', (∀ b o, s.heap.get? b = some o → h'.get? b = some o) → M ∈ ns → (∀ a, a ∈ ns → M ≤ a) → Q (.int M t') { s with heap := h', toks := tk }) : wpAny (model prog w) A (call (.builtin "min") [.ref t]) Q E s := by
  obtain ⟨xs, e⟩ := hi.allInts.items
  have hn : numsOf (intItems xs).toList = ns := by rw [← e]; exact hi.numsOf
  rw [nums_intItems] at hn
  subst hn
  rw [e] at ht
  have hsz : 0 < xs.size := by simpa using hne
  obtain ⟨o, ho, hc, n, hd⟩ := id ht
  have hne' : t ≠ s.heap.objs.size := Nat.ne_of_lt (Heap.lt_size ho)
  refine call_min_walk (wpAny_pyIter_tuple ht ?_)
  refine ⟨s.heap.objs.size, [_, t], [_], _, _, _, _, rfl, PySem.Walks.tuple (A := A.in1) hh _ t hne' (intItems xs), ⟨⟨_, Heap.get?_push_size _ rfl, rfl, rfl⟩, ht.at fun o e => Heap.get?_push_of_some _ e⟩, fun b hb => ?_, by simpa [intItems] using hsz, CmpOf.ints_lt (numAt xs) (fun _ _ => intItems_at), fun v h' tk hv hk => ?_⟩
  · rcases List.mem_cons.mp hb with rfl | hb
    · exact Heap.lt_size (Heap.get?_push_size _ rfl)
    · obtain rfl := List.mem_singleton.mp hb
      exact Heap.lt_size (Heap.get?_push_of_some _ ho)
  · have hv : (intItems xs)[argBest (fun i j => decide (numAt xs i < numAt xs j)) (xs.size - 1)]? = some v := by simpa [intItems] using hv
    obtain ⟨t, rfl⟩ := intItems_at hv
    obtain ⟨h1, h2⟩ := argBest_lt (numAt xs) (xs.size - 1)
    refine h h' tk _ t (fun b o e => hk b o (fun hb => absurd (Heap.lt_size e) ((List.mem_singleton.mp hb) ▸ Nat.lt_irrefl _)) (Heap.get?_push_of_some _ e)) ?_ fun a ha => ?_
    · rw [numAt_eq]; exact PySem.getD_mem (by rw [List.length_map, Array.length_toList]; omega)
    · obtain ⟨j, hj, rfl⟩ := mem_getD ha
      rw [List.length_map, Array.length_toList] at hj
      rw [← numAt_eq]; exact h2 j (by omega)
theorem max_tupRaw (hh : A.handled = none) (ht : s.heap.IsTuple t its.toArray) (hi : IntsAre its ns) (hne : 0 < ns.length)
    (h : ∀ h' tk M t', (∀ b o, s.heap.get? b = some o → h'.get? b = some o) → M ∈ ns → (∀ a, a ∈ ns → a ≤ M) → Q (.int M t') { s with heap := h', toks := tk }) : wpAny (model prog w) A (call (.builtin "max") [.ref t]) Q E s := by
  obtain ⟨xs, e⟩ := hi.allInts.items
  have hn : numsOf (intItems xs).toList = ns := by rw [← e]; exact hi.numsOf
  rw [nums_intItems] at hn
  subst hn
  rw [e] at ht
  have hsz : 0 < xs.size := by simpa using hne
  obtain ⟨o, ho, hc, n, hd⟩ := id ht
  have hne' : t ≠ s.heap.objs.size := Nat.ne_of_lt (Heap.lt_size ho)
  refine call_max_walk (wpAny_pyIter_tuple ht ?_)
  refine ⟨s.heap.objs.size, [_, t], [_], _, _, _, _, rfl, PySem.Walks.tuple (A := A.in1) hh _ t hne' (intItems xs), ⟨⟨_, Heap.get?_push_size _ rfl, rfl, rfl⟩, ht.at fun o e => Heap.get?_push_of_some _ e⟩, fun b hb => ?_, by simpa [intItems] using hsz, CmpOf.ints_gt (numAt xs) (fun _ _ => intItems_at), fun v h' tk hv hk => ?_⟩
  · rcases List.mem_cons.mp hb with rfl | hb
    · exact Heap.lt_size (Heap.get?_push_size _ rfl)
    · obtain rfl := List.mem_singleton.mp hb
      exact Heap.lt_size (Heap.get?_push_of_some _ ho)
  · have hv : (intItems xs)[argBest (fun i j => decide (numAt xs i > numAt xs j)) (xs.size - 1)]? = some v := by simpa [intItems] using hv
    obtain ⟨t, rfl⟩ := intItems_at hv
    obtain ⟨h1, h2⟩ := argBest_gt (numAt xs) (xs.size - 1)
    refine h h' tk _ t (fun b o e => hk b o (fun hb => absurd (Heap.lt_size e) ((List.mem_singleton.mp hb) ▸ Nat.lt_irrefl _)) (Heap.get?_push_of_some _ e)) ?_ fun a ha => ?_
    · rw [numAt_eq]; exact PySem.getD_mem (by rw [List.length_map, Array.length_toList]; omega)
    · obtain ⟨j, hj, rfl⟩ := mem_getD ha
      rw [List.length_map, Array.length_toList] at hj
      rw [← numAt_eq]; exact h2 j (by omega)
end
section
variable {X : Cx}
/-- f of one list or tuple of ints -/
def rSeqI (K : PySem.W.Frag) (C : List Int → Int → Prop) : List V → Hp → VK → Prop := fun vs H Q => ∃ (a : Addr) (ns : List Int), vs = [V.ref a] ∧ (SqL K H a (ns.map V.int) ∨ SqT K H a (ns.map V.int)) ∧ 0 < ns.length ∧ ∀ m, C ns m → Q (.int m) H
theorem cr_min1 (hc : X.calm = true) : CallR X (.builtin "min") (rSeqI X.K fun ns m => m ∈ ns ∧ ∀ y, y ∈ ns → m ≤ y) := by
  intro pins s σ H vs us Q I r h
  obtain ⟨a, ns, rfl, hs | hs, hne, q⟩ := h
  · obtain ⟨its, rv, hl, _⟩ := I.list hs
    rw [Vals.ref1 r]
    exact min_raw (I.ok.hd hc) hl.isList rv.ints hne fun h' tk m t' hk h1 h2 => ⟨.int _, H, I.kept hk, ⟨_, rfl⟩, q m ⟨h1, h2⟩⟩
  · obtain ⟨its, rv, hl, _⟩ := I.tuple hs
    rw [Vals.ref1 r]
    exact min_tupRaw (I.ok.hd hc) hl rv.ints hne fun h' tk m t' hk h1 h2 => ⟨.int _, H, I.kept hk, ⟨_, rfl⟩, q m ⟨h1, h2⟩⟩
theorem cr_max1 (hc : X.calm = true) : CallR X (.builtin "max") (rSeqI X.K fun ns m => m ∈ ns ∧ ∀ y, y ∈ ns → y ≤ m) := by
  intro pins s σ H vs us Q I r h
  obtain ⟨a, ns, rfl, hs | hs, hne, q⟩ := h
  · obtain ⟨its, rv, hl, _⟩ := I.list hs
    rw [Vals.ref1 r]
    exact max_raw (I.ok.hd hc) hl.isList rv.ints hne fun h' tk m t' hk h1 h2 => ⟨.int _, H, I.kept hk, ⟨_, rfl⟩, q m ⟨h1, h2⟩⟩
  · obtain ⟨its, rv, hl, _⟩ := I.tuple hs
    rw [Vals.ref1 r]
    exact max_tupRaw (I.ok.hd hc) hl rv.ints hne fun h' tk m t' hk h1 h2 => ⟨.int _, H, I.kept hk, ⟨_, rfl⟩, q m ⟨h1, h2⟩⟩
def rSumA (K : PySem.W.Frag) : List V → Hp → VK → Prop := fun vs H Q => ∃ (a : Addr) (ns : List Int), vs = [V.ref a] ∧ (SqL K H a (ns.map V.int) ∨ SqT K H a (ns.map V.int)) ∧ Q (.int ns.sum) H
theorem cr_sumD (hc : X.calm = true) : CallR X (.builtin "sum") (rSumA X.K) := by
  intro pins s σ H vs us Q I r h
  obtain ⟨a, ns, rfl, hs | hs, q⟩ := h
  · obtain ⟨its, rv, hl, _⟩ := I.list hs
    rw [Vals.ref1 r]
    exact sum_raw (I.ok.hd hc) hl.isList rv.ints fun h' tk t' hk => ⟨.int _, H, I.kept hk, ⟨_, rfl⟩, q⟩
  · obtain ⟨its, rv, hl, _⟩ := I.tuple hs
    rw [Vals.ref1 r]
    have hi := rv.ints
    obtain ⟨xs, hx⟩ := hi.allInts.items
    have hn : numsOf its.toArray.toList = ns := by rw [show its.toArray.toList = its from rfl, hi.numsOf]
    have hl' : s.heap.IsTuple a its.toArray := hl
    have hx' : its.toArray = intItems xs := hx
    rw [hx'] at hl' hn
    rw [nums_intItems] at hn
    refine PySem.W.ktm_sumG (I.ok.hd hc) hl' fun h' tk t' hk => ?_
    rw [preSum_eq, List.take_of_length_le (by simp), hn]
    exact ⟨.int _, H, I.kept hk, ⟨_, rfl⟩, q⟩

theorem seqI_vals {K : PySem.W.Frag} {H1 H : Hp} {x : V} {ds : List PyData} {ns : List Int} (sm : Same H1 H) (h : intsD ds = some ns) (hx : Den K H1 x (.list ds) ∨ Den K H1 x (.tuple ds)) : ∃ a, x = .ref a ∧ (SqL K H a (ns.map V.int) ∨ SqT K H a (ns.map V.int)) := by
  rcases hx with hx | hx
  · cases hx with
    | lst hs hl dl =>
      rw [intsD_vals h dl] at hs
      exact ⟨_, rfl, .inl (sm.seq hs)⟩
  · cases hx with
    | tup hs hl dl =>
      rw [intsD_vals h dl] at hs
      exact ⟨_, rfl, .inr (sqT_mono sm hs)⟩
def minL : List Int → Int
  | [] => 0
  | [n] => n
  | n :: m :: ns => min n (minL (m :: ns))
def maxL : List Int → Int
  | [] => 0
  | [n] => n
  | n :: m :: ns => max n (maxL (m :: ns))
theorem minL_mem : ∀ {ns : List Int}, ns ≠ [] → minL ns ∈ ns
  | [], h => absurd rfl h
  | [n], _ => by simp [minL]
  | n :: m :: ns, _ => by
    have := minL_mem (ns := m :: ns) (by simp)
    show min n (minL (m :: ns)) ∈ _
    by_cases h : n ≤ minL (m :: ns)
    · rw [Int.min_eq_left h]; exact List.mem_cons_self
    · rw [Int.min_eq_right (by omega)]; exact List.mem_cons_of_mem _ this
theorem minL_le : ∀ {ns : List Int} {y : Int}, y ∈ ns → minL ns ≤ y
  | [], _, h => by simp at h
  | [n], y, h => by
    have : y = n := by simpa using h
    subst this
    exact Int.le_refl _
  | n :: m :: ns, y, h => by
    show min n (minL (m :: ns)) ≤ y
    rcases List.mem_cons.mp h with rfl | h
    · exact Int.min_le_left _ _
    · exact Int.le_trans (Int.min_le_right _ _) (minL_le h)
theorem maxL_mem : ∀ {ns : List Int}, ns ≠ [] → maxL ns ∈ ns
  | [], h => absurd rfl h
  | [n], _ => by simp [maxL]
  | n :: m :: ns, _ => by
    have := maxL_mem (ns := m :: ns) (by simp)
    show max n (maxL (m :: ns)) ∈ _
    by_cases h : maxL (m :: ns) ≤ n
    · rw [Int.max_eq_left h]; exact List.mem_cons_self
    · rw [Int.max_eq_right (by omega)]; exact List.mem_cons_of_mem _ this
theorem maxL_le : ∀ {ns : List Int} {y : Int}, y ∈ ns → y ≤ maxL ns
  | [], _, h => by simp at h
  | [n], y, h => by
    have : y = n := by simpa using h
    subst this
    exact Int.le_refl _
  | n :: m :: ns, y, h => by
    show y ≤ max n (maxL (m :: ns))
    rcases List.mem_cons.mp h with rfl | h
    · exact Int.le_max_left _ _
    · exact Int.le_trans (maxL_le h) (Int.le_max_right _ _)
def seqI : List PyData → Option (List Int)
  | [.list ds] => intsD ds
  | [.tuple ds] => intsD ds
  | _ => none
def minD1 (ds : List PyData) : Option PyData := (seqI ds).bind fun ns => if 0 < ns.length then some (.int (minL ns)) else none
def maxD1 (ds : List PyData) : Option PyData := (seqI ds).bind fun ns => if 0 < ns.length then some (.int (maxL ns)) else none
def sumD (ds : List PyData) : Option PyData := (seqI ds).map fun ns => .int ns.sum
theorem seqI_den {K : PySem.W.Frag} {H1 H : Hp} {xs : List V} {ds : List PyData} {ns : List Int} (sm : Same H1 H) (h : seqI ds = some ns) (hx : DenL K H1 xs ds) : ∃ a, xs = [.ref a] ∧ (SqL K H a (ns.map V.int) ∨ SqT K H a (ns.map V.int)) := by
  unfold seqI at h
  split at h
  · cases hx with
    | cons d1 d2 =>
      cases d2
      obtain ⟨a, rfl, q⟩ := seqI_vals sm h (.inl d1)
      exact ⟨a, rfl, q⟩
  · cases hx with
    | cons d1 d2 =>
      cases d2
      obtain ⟨a, rfl, q⟩ := seqI_vals sm h (.inr d1)
      exact ⟨a, rfl, q⟩
  · cases h
theorem v_min1 {K : PySem.W.Frag} : VN K (rSeqI K fun ns m => m ∈ ns ∧ ∀ y, y ∈ ns → m ≤ y) minD1 := by
  intro xs ds c H1 H Q sm dx h k
  obtain ⟨ns, h1, h⟩ := bind_some h
  obtain ⟨hp, rfl⟩ := of_if h
  obtain ⟨a, rfl, q⟩ := seqI_den sm h1 dx
  refine ⟨a, ns, rfl, q, hp, fun m ⟨m1, m2⟩ => ?_⟩
  have e : m = minL ns := Int.le_antisymm (m2 _ (minL_mem (by intro e; subst e; simp at hp))) (minL_le m1)
  subst e
  exact k _ H1 H (.refl sm) (.int _)
theorem v_max1 {K : PySem.W.Frag} : VN K (rSeqI K fun ns m => m ∈ ns ∧ ∀ y, y ∈ ns → y ≤ m) maxD1 := by
  intro xs ds c H1 H Q sm dx h k
  obtain ⟨ns, h1, h⟩ := bind_some h
  obtain ⟨hp, rfl⟩ := of_if h
  obtain ⟨a, rfl, q⟩ := seqI_den sm h1 dx
  refine ⟨a, ns, rfl, q, hp, fun m ⟨m1, m2⟩ => ?_⟩
  have e : m = maxL ns := Int.le_antisymm (maxL_le m1) (m2 _ (maxL_mem (by intro e; subst e; simp at hp)))
  subst e
  exact k _ H1 H (.refl sm) (.int _)
theorem v_sum {K : PySem.W.Frag} : VN K (rSumA K) sumD := by
  intro xs ds c H1 H Q sm dx h k
  obtain ⟨ns, h1, rfl⟩ := map_some h
  obtain ⟨a, rfl, q⟩ := seqI_den sm h1 dx
  exact ⟨a, ns, rfl, q, k _ H1 H (.refl sm) (.int _)⟩
end

/-! ### sorted of a list or a tuple of ints -/
section
variable {prog : Program} {w : World} {A : Around} {E : Value → Shared → Prop} {s : Shared}
theorem collect_tup {l : Addr} {vs : List Value} {Q : List Value → Shared → Prop} (hl : s.heap.IsTuple l vs.toArray)
    (h : Q vs { s with heap := (s.heap.push (seqObj "list" #[] 0)).update s.heap.objs.size (Obj.mapSeq (· ++ vs.toArray)) }) (hsz : vs.length ≤ sizeLine) :
    wpAny (model prog w) A (collect (.ref l)) Q E s := by
  obtain ⟨o, ho, hc, n, hd⟩ := id hl
  unfold collect
  refine wpAny_bind (wpAny_runValue (codeAny_builtin entry_proto_collect' ?_))
  show wpAny _ _ (do again (.builtin "list.__iadd__" ⟨[← newList [], .ref l], []⟩)) _ _ s
  refine wpAny_bind (wpAny_newList (wpAny_pure ⟨Code.quiet_builtin _ (by decide +kernel), codeAny_builtin entry_list_iadd' ?_⟩))
  show wpAny _ _ (Builtin.List.listExtendWith (.ref s.heap.objs.size) (.ref l) (.ref s.heap.objs.size)) _ _ { s with heap := s.heap.push (seqObj "list" #[] 0) }
  unfold Builtin.List.listExtendWith
  have ho' : (s.heap.push (seqObj "list" #[] 0)).get? l = some o := Heap.get?_push_of_some _ ho
  refine wpAny_bind (wpAny_typeOf (T := "tuple") ⟨o, ho', hc⟩ ?_)
  have ht : (Value.type "tuple" == Value.type "tuple") = true := by rfl
  rw [if_pos (by rw [ht]; simp)]
  refine wpAny_bind (listItems_at ho' hd ?_)
  refine wpAny_bind (listItems_at (xs := #[]) (n := 0) (Heap.get?_push_size _ rfl) rfl ?_)
  rw [if_neg (by simp)]
  refine wpAny_bind (listUpdate_at (xs := #[]) (n := 0) (Heap.get?_push_size _ rfl) rfl ?_ (Nat.zero_le _) (by show (#[] ++ vs.toArray).size ≤ sizeLine + 1; simp only [Array.size_append, List.size_toArray, List.length_nil]; omega))
  refine wpAny_pure ?_
  show wpAny (model prog w) A (do
      let o ← load s.heap.objs.size
      match o.data with
      | .seq xs _ => pure xs.toList
      | _ => unsupported "internal:collect") Q E { s with heap := (s.heap.push (seqObj "list" #[] 0)).update s.heap.objs.size (Obj.mapSeq (· ++ vs.toArray)) }
  refine wpAny_bind (wpAny_load (get?_update_seq (Heap.get?_push_size _ rfl) _) ?_)
  show wpAny _ _ (pure ((#[] : Array Value) ++ vs.toArray).toList) Q E _
  rw [show ((#[] : Array Value) ++ vs.toArray).toList = vs by simp]
  exact wpAny_pure h
theorem sorted_ordT {l : Addr} {vs : List Value} {ltv : Value → Value → Bool} {Q : Value → Shared → Prop} (O : SrtO.Swo ltv) (hl : s.heap.IsTuple l vs.toArray) (hz : vs.length ≤ sizeLine)
    (hS : 2 ≤ vs.length → ∀ (h₁ : Heap) (a : Addr), h₁.get? a = some (seqObj "list" vs.toArray 0) → (∀ b o, s.heap.get? b = some o → b ≠ a ∧ h₁.get? b = some o) → SrtO.SortableO prog w A.in1.in1 { s with heap := h₁ } a vs ltv)
    (h : ∀ out : List Value, SrtO.Srtd ltv out → SrtO.Stb ltv out vs → Q (.ref (s.heap.objs.size + 1)) { s with heap := sortedAll s.heap vs out.toArray }) :
    wpAny (model prog w) A (call (.builtin "sorted") [.ref l]) Q E s := by
  refine Calls.call_function_entry kind_sorted plain_sorted entry_sorted (args_sorted1 _) ?_
  unfold Builtin.«sorted»
  refine wpAny_bind (m := checkCount "sorted" 1 1 _) (wpAny_pure ?_)
  refine wpAny_bind (collect_tup hl ?_ hz)
  refine wpAny_bind (wpAny_newList ?_ hz)
  have hsz : ((s.heap.push (seqObj "list" #[] 0)).update s.heap.objs.size (Obj.mapSeq (· ++ vs.toArray))).objs.size = s.heap.objs.size + 1 := by
    rw [Heap.size_update, size_push']
  have hoL : (((s.heap.push (seqObj "list" #[] 0)).update s.heap.objs.size (Obj.mapSeq (· ++ vs.toArray))).push (seqObj "list" vs.toArray 0)).get? (s.heap.objs.size + 1) = some (seqObj "list" vs.toArray 0) := by
    rw [← hsz]; exact Heap.get?_push_size _ rfl
  have keep : ∀ b o, s.heap.get? b = some o → b ≠ s.heap.objs.size + 1 ∧ (((s.heap.push (seqObj "list" #[] 0)).update s.heap.objs.size (Obj.mapSeq (· ++ vs.toArray))).push (seqObj "list" vs.toArray 0)).get? b = some o := fun b o q => by
    have hlt : b < s.heap.objs.size := Heap.lt_size q
    refine ⟨Nat.ne_of_lt (Nat.lt_succ_of_lt hlt), Heap.get?_push_of_some _ ?_⟩
    rw [Heap.get?_update_ne _ _ _ _ (Nat.ne_of_lt hlt)]
    exact Heap.get?_push_of_some _ q
  show wpAny _ _ _ _ _ { s with heap := ((s.heap.push (seqObj "list" #[] 0)).update s.heap.objs.size (Obj.mapSeq (· ++ vs.toArray))).push (seqObj "list" vs.toArray 0) }
  rw [hsz]
  refine wpAny_bind (wpAny_holding (wpAny_call_entry slot_list_sort ⟨_, hoL, rfl⟩ entry_list_sort (SrtO.list_sort_ord O hoL hz (fun h2 => hS h2 _ _ hoL keep) fun out hs hb => ⟨_, rfl, ?_⟩) (args_list_sort _)))
  exact wpAny_pure ⟨_, rfl, h out hs hb⟩
end
def srt (ns : List Int) : List Int := ns.mergeSort fun a b => decide (a ≤ b)
theorem srt_perm (ns : List Int) : (srt ns).Perm ns := List.mergeSort_perm _ _
theorem srt_pw (ns : List Int) : (srt ns).Pairwise (· ≤ ·) := by
  have h := List.pairwise_mergeSort (le := fun a b : Int => decide (a ≤ b)) (fun a b c h1 h2 => by simp only [decide_eq_true_eq] at *; omega) (fun a b => by simp only [Bool.or_eq_true, decide_eq_true_eq]; omega) ns
  exact h.imp fun h => by simpa using h
theorem srt_eq {ns ms : List Int} (hp : ms.Perm ns) (hs : ms.Pairwise (· ≤ ·)) : ms = srt ns :=
  List.Perm.eq_of_pairwise (fun a b _ _ h1 h2 => Int.le_antisymm h1 h2) hs (srt_pw ns) (hp.trans (srt_perm ns).symm)
section
variable {X : Cx}
def rSortA (K : PySem.W.Frag) : List V → Hp → VK → Prop := fun vs H Q => ∃ (a : Addr) (ns : List Int), vs = [V.ref a] ∧ (SqL K H a (ns.map V.int) ∨ SqT K H a (ns.map V.int)) ∧
  ∀ (p : Addr), H p = none → Q (.ref p) (upd H p (.lst ((srt ns).map V.int)))
theorem cr_sortedD : CallR X (.builtin "sorted") (rSortA X.K) := by
  intro pins s σ H vs us Q I r h
  obtain ⟨a, ns, rfl, hs | hs, q⟩ := h
  · exact cr_sortedI pins s σ H _ us Q I r ⟨a, ns, rfl, hs, fun ns' p k1 k2 hn => by rw [srt_eq k1 k2]; exact q p hn⟩
  · obtain ⟨its, rv, hl, hz⟩ := I.tuple hs
    rw [Vals.ref1 r]
    have hi := rv.ints
    refine sorted_ordT SrtO.swo_int hl (by rw [← rv.length]; exact hz) (fun h2 h₁ a' _ _ => SrtO.ints_sortable hi h2) fun out h1 h2 => ?_
    obtain ⟨k1, k2, k3⟩ := SrtO.ints_out hi h1 h2
    obtain ⟨ep, he'⟩ := PyProof.Rows.sortedAll_at s.heap its out.toArray
    have hlen : ((out.map SrtO.iv).map V.int).length ≤ sizeLine := by
      rw [List.length_map, k2.length_eq]
      rw [List.length_map] at hz
      exact hz
    have qq := q (s.heap.objs.size + 1) (I.hok.fresh (Nat.le_succ _))
    rw [← srt_eq k2 k3] at qq
    exact ⟨.ref _, upd H (s.heap.objs.size + 1) (.lst ((out.map SrtO.iv).map V.int)), I.laid (t' := s.toks) (fun _ _ => PyProof.Rows.sortedAll_old) (Nat.le_succ _) ⟨hlen, out, ep, vals_of_ints k1, he'⟩, rfl, qq⟩
theorem seqI_len {K : PySem.W.Frag} {H1 : Hp} {xs : List V} {ds : List PyData} {ns : List Int} (h : seqI ds = some ns) (hx : DenL K H1 xs ds) : ns.length ≤ sizeLine := by
  unfold seqI at h
  split at h
  · cases hx with
    | cons d1 d2 =>
      cases d1 with
      | lst hs hl dl =>
        have e := dl.length
        rw [intsD_vals h dl, List.length_map] at e
        omega
  · cases hx with
    | cons d1 d2 =>
      cases d1 with
      | tup hs hl dl =>
        have e := dl.length
        rw [intsD_vals h dl, List.length_map] at e
        omega
  · cases h
def sortedD (ds : List PyData) : Option (List PyData) := (seqI ds).map fun ns => (srt ns).map PyData.int
theorem v_sorted {K : PySem.W.Frag} : VNL K (rSortA K) sortedD := by
  intro xs ds cs H1 H Q sm dx h k
  obtain ⟨ns, h1, rfl⟩ := map_some h
  obtain ⟨a, rfl, q⟩ := seqI_den sm h1 dx
  refine ⟨a, ns, rfl, q, fun p n => k p _ H1 _ (.newMut sm n) n upd_same (sm.free n) ?_ (DenL.ints _)⟩
  rw [List.length_map, (srt_perm ns).length_eq]
  exact seqI_len h1 dx
end

/-! ### enumerate of a list, of a tuple -/
section
theorem meets_enumerate_newB1 {v : Value} {o : Obj} {H : Heap → Prop} (B : Begins v o H) :
    Meets (Builtin.«enumerate.__new__» ⟨[.type "enumerate", v], []⟩) (fun _ R s => H s.heap ∧
      R (.ok (.ret (.ref (s.heap.push o).objs.size))) { s with heap := (s.heap.push o).push { cls := .type "enumerate", data := .fields #[.none, .bool false, .ref s.heap.objs.size, rawInt 0, .none, .none] } }) :=
  .of_wp fun prog w A R s h => by
    obtain ⟨hp, g, d, tk, os⟩ := s; obtain ⟨h1, h⟩ := h
    have hsub := sub_enumerate
    have q1 : ∀ {A' : Around} {E : Value → Shared → Prop} {Q : Value → Shared → Prop}, Q (.ref hp.objs.size) ⟨hp.push o, g, d, tk, os⟩ → wpAny (model prog w) A' (pyIter v) Q E ⟨hp, g, d, tk, os⟩ :=
      fun q => B.iter prog w _ _ ⟨hp, g, d, tk, os⟩ _ h1 q
    wp_walk using q1
    refine wpAny_stack_any fun st => wpAny_pure ?_
    split
    · rename_i c _ _ _ _ _
      cases (c == Value.type "enumerate")
      · wp_walk using q1
        exact ⟨_, rfl, h⟩
      · wp_walk using q1
        exact ⟨_, rfl, h⟩
    · wp_walk using q1
      exact ⟨_, rfl, h⟩
variable {prog : Program} {w : World} {A : Around} {E : Value → Shared → Prop} {s : Shared}
theorem enum_begins1 {v : Value} {o : Obj} {H : Heap → Prop} {Q : Value → Shared → Prop} (B : Begins v o H) (h1 : H s.heap)
    (h : ∀ h', IsEnum h' (s.heap.objs.size + 1) s.heap.objs.size 0 .none → h'.get? s.heap.objs.size = some o → h'.objs.size = s.heap.objs.size + 2 →
      (∀ b o, s.heap.get? b = some o → h'.get? b = some o) → Q (.ref (s.heap.objs.size + 1)) { s with heap := h' }) :
    wpAny (model prog w) A (call (.type "enumerate") [v]) Q E s := by
  refine callType_new F.called_enumerate (by decide) (F.typeCall_enumerate_1 _) (F.newCall_enumerate_1 _) (fun obj => F.args_object_init_2 obj _) F.entry_enumerate_new
    (meets_enumerate_newB1 B) ⟨h1, ?_⟩
  have hz : (s.heap.push o).objs.size = s.heap.objs.size + 1 := Heap.size_push ..
  show _ ∧ _
  rw [hz]
  have he : IsEnum ((s.heap.push o).push { cls := .type "enumerate", data := .fields #[.none, .bool false, .ref s.heap.objs.size, rawInt 0, .none, .none] }) (s.heap.objs.size + 1) s.heap.objs.size 0 .none := by
    have := Heap.get?_push_size (s.heap.push o) (o := { cls := .type "enumerate", data := .fields #[.none, .bool false, .ref s.heap.objs.size, rawInt 0, .none, .none] }) rfl
    rw [hz] at this; exact this
  refine ⟨⟨_, he, rfl⟩, h _ he (Heap.get?_push_of_some _ (Heap.get?_push_size _ B.free)) (by rw [Heap.size_push, hz]) fun b o x => Heap.get?_push_of_some _ (Heap.get?_push_of_some _ x)⟩
end
/-- enumerate of the tuple at a -/
def Iten (K : PySem.W.Frag) (a : Addr) : It :=
  ⟨fun i H => ∃ (xs : List V) (x : V), SqT K H a xs ∧ xs[i]? = some x, fun i H v H' => ∃ T x, v = .ref T ∧ H T = none ∧ H' = upd H T (.tup [.int (i : Nat), x]) ∧ ∀ xs, SqT K H a xs → xs[i]? = some x, fun i H => ∃ xs : List V, SqT K H a xs ∧ xs.length ≤ i⟩
theorem turn_enumT {P : Program} {w : World} {K : PySem.W.Frag} {elts : List Expr} {kk : Nat} {tpos : Pos} (a e it : Addr) :
    Turn P w K (.Tuple elts kk tpos) (Iten K a) [e, it] e (fun i h => (∃ old, IsEnum h e it ((i : Nat) : Int) old) ∧ h.IsTupleIter it a i ∧ e ≠ it) where
  mem := by simp
  obj := fun i h st b hb => by
    obtain ⟨⟨old, he⟩, ⟨o, ho, hc, hd⟩, _⟩ := st
    have e' : b = e ∨ b = it := by simpa using hb
    rcases e' with z | z
    · rw [z]; exact ⟨_, he, fun v q => nomatch q⟩
    · rw [z]; exact ⟨o, ho, fun v q => by rw [hd] at q; cases q⟩
  keep := fun i h h' st k => let ⟨⟨old, he⟩, hi, hne⟩ := st; ⟨⟨old, k e (by simp) _ he⟩, hi.at fun o q => k it (by simp) o q, hne⟩
  item := by
    intro X hP hw hK hc i pins s σ H E I hf st hg
    subst hP hw hK
    obtain ⟨⟨old, he⟩, hit, hne⟩ := st
    obtain ⟨xs, x, hq, hx⟩ := hg
    obtain ⟨its, rv, p, hz⟩ := I.tuple hq
    obtain ⟨u, hu, ru⟩ := rv.get hx
    have hp : s.heap.IsTuple a its.toArray := p
    have hel : e < s.heap.objs.size := Heap.lt_size he
    have hil : it < s.heap.objs.size := by obtain ⟨_, q, _⟩ := hit; exact Heap.lt_size q
    have hea : e ≠ a := fun z => by
      obtain ⟨o, ho, hc, _⟩ := hp
      rw [← z, he] at ho
      cases ho
      exact absurd (show Value.type "enumerate" = Value.type "tuple" from hc) (by decide)
    have hia : a ≠ it := fun z => by
      obtain ⟨o, ho, hc, _⟩ := hp
      obtain ⟨o2, ho2, hc2, _⟩ := hit
      rw [z, ho2] at ho
      cases ho
      rw [hc2] at hc
      exact absurd hc (by decide)
    have D := Draws.tuple (prog := X.prog) (w := X.w) (A := X.A.in1) (I.ok.hd hc) it a hia its.toArray
    have hlt : i < its.toArray.size := by
      rw [List.size_toArray]
      exact (List.getElem?_eq_some_iff.mp hu).1
    refine wpAny_pyNext_enum_itemD D he ⟨hit, hp⟩ hlt hne (by simp [hne, hea]) fun x' h' tk hx' ho hit' hT hsz hk => ?_
    obtain ⟨hit', _⟩ := hit'
    have ex : x' = u := by
      rw [List.getElem?_toArray, hu] at hx'
      cases hx'
      rfl
    subst ex
    refine ⟨_, rfl, wpAny_letOwnedTupleGo_enum (s := { s with heap := h', toks := tk + 1 }) ho fun h'' he' sb => ?_⟩
    have hT2 : h''.get? s.heap.objs.size = some { cls := .type "tuple", data := .seq #[.int i tk, x'] } := (sb.2 _ (Nat.ne_of_gt hel)).trans hT
    have new : ObjOk X.prog X.w (upd H s.heap.objs.size (.tup [.int (i : Nat), x])) h'' s.heap.objs.size (.tup [.int (i : Nat), x]) :=
      ⟨by show 2 ≤ sizeLine; decide, [.int i tk, x'], .cons ⟨_, rfl⟩ (.cons ru .nil), ⟨_, hT2, rfl, _, rfl⟩⟩
    have I1 : L2.Inv X pins σ (upd H s.heap.objs.size (.tup [.int (i : Nat), x])) { s with heap := h'', toks := tk + 1 } :=
      I.turnedNew (ch := [e, it]) (fun b ob hb q => (sb.2 b (fun z => hb (by simp [z]))).trans (hk b ob (fun z => hb (by simp [z])) (fun z => hb (by simp [z])) q)) hf (Nat.le_refl _) new
    refine ⟨.ref s.heap.objs.size, _, I1, rfl, ⟨_, x, rfl, I.hok.fresh (Nat.le_refl _), rfl, fun ys hy => by rw [I.tuple_inj hy hq]; exact hx⟩, ⟨⟨x', ?_⟩, hit'.at fun o q => (sb.2 it (Ne.symm hne)).trans q, hne⟩, fun b hb => ?_⟩
    · have e1 : ((i + 1 : Nat) : Int) = (i : Int) + 1 := by omega
      rw [e1]; exact he'
    · have hb' : b < s.heap.objs.size := by
        have e' : b = e ∨ b = it := by simpa using hb
        rcases e' with z | z
        · rw [z]; exact hel
        · rw [z]; exact hil
      rw [upd_ne (Nat.ne_of_lt hb')]
      exact (hf b hb).1
  done := by
    intro X hP hw hK hc i pins s σ H E I hf st hg
    subst hP hw hK
    obtain ⟨⟨old, he⟩, hit, hne⟩ := st
    obtain ⟨xs, hq, hx⟩ := hg
    obtain ⟨its, rv, p, hz⟩ := I.tuple hq
    have hp : s.heap.IsTuple a its.toArray := p
    obtain ⟨f0, f1, f2, f3, f4, f5⟩ := hf it (by simp)
    have hl := rv.length
    have hT : s.TypeIs (.ref e) "enumerate" := ⟨_, he, rfl⟩
    unfold pyNext
    refine wpAny_bind (wpAny_attempt (wpAny_callSpecial?_slot (name := Str.ofString "__next__") hT F.slot_enumerate_next
      (wpAny_call_entry F.slot_enumerate_next hT F.entry_enumerate_next ?_ (F.args_enumerate_next_1 _))))
    show wpAny _ _ (field (.ref e) 2 >>= _) _ _ _
    refine wpAny_bind (wpAny_field he rfl (x := .ref it) rfl ?_)
    refine wpAny_bind (wpAny_nextOf_tuple_end (A := X.A.in1) (I.ok.hd hc) hit hp (by simp; omega) fun h' x he' hx' => ?_)
    obtain ⟨o, ho, hc⟩ := hx'
    refine wpAny_bind (wpAny_isInstance (T := "StopIteration") (b := true) ⟨o, ho, hc⟩ isSubtype_stop ?_)
    exact wpAny_pure ⟨rfl, I.turned (t' := s.toks) (fun b o hb q => he' b o hb q) f0 f1 f3 f4 f5⟩
  self := fun A i s Q E st h => let ⟨⟨_, he⟩, _⟩ := st; wpAny_pyIter_enum he h
def tEnA (K : PySem.W.Frag) (ta : TA) : TI := fun σ H R => ta σ H fun vs H1 => ∃ a, vs = [.ref a] ∧ ((∃ xs, SqL K H1 a xs ∧ R (Ite K a) H1) ∨ ∃ xs, SqT K H1 a xs ∧ R (Iten K a) H1)
theorem pi_enumA {X : Cx} {e : Expr} {ta : TA} {p pos tpos : Pos} {elts : List Expr} {kk : Nat} (hg : Gl X "enumerate") (hm : X.mg "enumerate" = none) (ha : PA X [e] ta) (hs : starEach [e] X.env = [(false, eval e X.env)] := by rfl) :
    PI X (.Tuple elts kk tpos) (.Call (.Name "enumerate" p) [e] [] pos) (tEnA X.K ta) := by
  refine ⟨fun pins s σ H R I h => ?_⟩
  refine Call_ (ld_blt I hg hm boot_enumerate (PyProof.Rows.callWith_type1 (thn (ha.run pos pins s σ H _ I h) fun us s1 ⟨vs, H1, I1, r1, q1⟩ => ?_) hs rfl))
  obtain ⟨a, ex, hq⟩ := q1
  subst ex
  cases r1 with
  | cons r rr =>
    cases rr
    cases r
    have fp : ∀ b ∈ [s1.heap.objs.size + 1, s1.heap.objs.size], FpOk X pins H1 b := fun b hb => by
      have e' : b = s1.heap.objs.size + 1 ∨ b = s1.heap.objs.size := by simpa using hb
      have hle : s1.heap.objs.size ≤ b := by
        rcases e' with z | z
        · rw [z]; exact Nat.le_add_right _ _
        · rw [z]; exact Nat.le_refl _
      exact I1.fpOk hle (I1.hok.fresh hle)
    rcases hq with ⟨xs, hq, q⟩ | ⟨xs, hq, q⟩
    · obtain ⟨its, rv, p', hz⟩ := I1.list hq
      refine call_enumerate_list p'.isList fun h' he hit hsz hk => wpAny_pyIter_enum he ?_
      have I2 : L2.Inv X pins σ H1 { s1 with heap := h' } := I1.kept (t' := s1.toks) hk
      exact ⟨s1.heap.objs.size + 1, [s1.heap.objs.size + 1, s1.heap.objs.size], _, _, H1, rfl, I2, turn_enum a (s1.heap.objs.size + 1) s1.heap.objs.size, ⟨⟨.none, he⟩, hit, Nat.succ_ne_self _⟩, fp, q⟩
    · obtain ⟨its, rv, p', hz⟩ := I1.tuple hq
      refine enum_begins1 (begins_tuple a its.toArray) p' fun h' he hit hsz hk => wpAny_pyIter_enum he ?_
      have I2 : L2.Inv X pins σ H1 { s1 with heap := h' } := I1.kept (t' := s1.toks) hk
      exact ⟨s1.heap.objs.size + 1, [s1.heap.objs.size + 1, s1.heap.objs.size], _, _, H1, rfl, I2, turn_enumT a (s1.heap.objs.size + 1) s1.heap.objs.size, ⟨⟨.none, he⟩, ⟨_, hit, rfl, rfl⟩, Nat.succ_ne_self _⟩, fp, q⟩
def enD : Nat → List PyData → List PyData
  | _, [] => []
  | k, d :: ds => .tuple [.int k, d] :: enD (k + 1) ds
theorem enD_len : ∀ (k : Nat) (ds : List PyData), (enD k ds).length = ds.length
  | _, [] => rfl
  | k, d :: ds => by show (enD (k + 1) ds).length + 1 = _; rw [enD_len]; rfl
theorem enD_get : ∀ {ds : List PyData} {k i : Nat} {d : PyData}, (enD k ds)[i]? = some d → ∃ e, d = .tuple [.int ((k + i : Nat) : Int), e] ∧ ds[i]? = some e
  | [], _, _, _, h => by simp [enD] at h
  | e :: ds, k, 0, d, h => by
    have z : PyData.tuple [.int k, e] = d := by simpa [enD] using h
    exact ⟨e, by rw [← z]; rfl, rfl⟩
  | e :: ds, k, i + 1, d, h => by
    obtain ⟨u, h1, h2⟩ := enD_get (ds := ds) (k := k + 1) (i := i) (by simpa [enD] using h)
    exact ⟨u, by rw [h1, show k + 1 + i = k + (i + 1) from by omega], by simpa using h2⟩
def iEn (f : En → Option PyData) : En → Option (List PyData) := fun ρ => ((f ρ).bind asSeq).map (enD 0)
section
variable {X : Cx} {a b c e : Expr} {es : List Expr} {fa fb fc f : En → Option PyData} {fs : En → Option (List PyData)} {pos p : Pos} {x : Str} {tg : Expr} {tf : En → Option Bool}
theorem di_enum {elts : List Expr} {kk : Nat} {tpos : Pos} (he : DE X e f) (hg : Gl X "enumerate") (hm : X.mg "enumerate" = none) (hs1 : starEach (e :: []) X.env = (false, eval e X.env) :: starEach [] X.env := by rfl) (hs : starEach [e] X.env = [(false, eval e X.env)] := by rfl) :
    DI X (.Tuple elts kk tpos) (.Call (.Name "enumerate" p) [e] [] pos) (iEn f) := by
  obtain ⟨t, pt, q⟩ := he
  refine ⟨_, pi_enumA hg hm (pa_cons pt pa_nil hs1) hs, fun σ H1 H ρ ds R s h k => ?_⟩
  obtain ⟨es, hz, rfl⟩ := map_some h
  clear h
  obtain ⟨d1, h1, hy⟩ := bind_some hz
  clear hz
  refine q σ H1 H ρ d1 _ s h1 fun v H1' H' x dv => ?_
  cases d1 <;> try (cases hy)
  all_goals cases dv
  · rename_i a xs hs hl dl
    refine ⟨a, rfl, .inl ⟨xs, x.sub.seq hs, k _ H1' H' x (by rw [enD_len]; exact hl) ?_⟩⟩
    intro G1 G s1 s2 i
    refine ⟨fun d z => ?_, fun l => ⟨xs, (s1.trans s2).seq hs, by rw [enD_len] at l; rw [dl.length]; exact l⟩⟩
    obtain ⟨u, rfl, z2⟩ := enD_get z
    obtain ⟨v, g1, g2⟩ := dl.get z2
    refine ⟨⟨xs, v, (s1.trans s2).seq hs, g1⟩, fun y G' hy => ?_⟩
    obtain ⟨T, y1, rfl, nT, rfl, f1⟩ := hy
    have b1 := f1 _ ((s1.trans s2).seq hs)
    rw [g1] at b1
    cases b1
    rw [Nat.zero_add]
    exact ⟨_, new2 s2 nT (.int _) (Den.mono s1 _ _ g2)⟩
  · rename_i a xs hs hl dl
    refine ⟨a, rfl, .inr ⟨xs, sqT_mono x.sub hs, k _ H1' H' x (by rw [enD_len]; exact hl) ?_⟩⟩
    intro G1 G s1 s2 i
    refine ⟨fun d z => ?_, fun l => ⟨xs, sqT_mono (s1.trans s2) hs, by rw [enD_len] at l; rw [dl.length]; exact l⟩⟩
    obtain ⟨u, rfl, z2⟩ := enD_get z
    obtain ⟨v, g1, g2⟩ := dl.get z2
    refine ⟨⟨xs, v, sqT_mono (s1.trans s2) hs, g1⟩, fun y G' hy => ?_⟩
    obtain ⟨T, y1, rfl, nT, rfl, f1⟩ := hy
    have b1 := f1 _ (sqT_mono (s1.trans s2) hs)
    rw [g1] at b1
    cases b1
    rw [Nat.zero_add]
    exact ⟨_, new2 s2 nT (.int _) (Den.mono s1 _ _ g2)⟩
end
end Dv

namespace Dv
open PySem PySem.Spec PyProof.Rows L2

/-! ### rows of ints in the order of tuples -/
def lexLe : List Int → List Int → Bool
  | [], _ => true
  | _ :: _, [] => false
  | a :: r, b :: q => decide (a < b) || (decide (a = b) && lexLe r q)
theorem lexLe_cons {a b : Int} {r q : List Int} : lexLe (a :: r) (b :: q) = true ↔ a < b ∨ (a = b ∧ lexLe r q = true) := by
  show (decide (a < b) || (decide (a = b) && lexLe r q)) = true ↔ _
  rw [Bool.or_eq_true, Bool.and_eq_true, decide_eq_true_eq, decide_eq_true_eq]
theorem lexLe_trans : ∀ {a b c : List Int}, lexLe a b = true → lexLe b c = true → lexLe a c = true
  | [], _, _, _, _ => rfl
  | _ :: _, [], _, h, _ => by cases h
  | _ :: _, _ :: _, [], _, h => by cases h
  | x :: a, y :: b, z :: c, h1, h2 => by
    rw [lexLe_cons] at *
    rcases h1 with h1 | ⟨h1, h3⟩
    · rcases h2 with h2 | ⟨h2, h4⟩
      · left; omega
      · left; omega
    · rcases h2 with h2 | ⟨h2, h4⟩
      · left; omega
      · right; exact ⟨by omega, lexLe_trans h3 h4⟩
theorem lexLe_total : ∀ (a b : List Int), (lexLe a b || lexLe b a) = true
  | [], _ => rfl
  | _ :: _, [] => rfl
  | x :: a, y :: b => by
    rw [Bool.or_eq_true, lexLe_cons, lexLe_cons]
    have ih := lexLe_total a b
    rw [Bool.or_eq_true] at ih
    rcases Int.lt_trichotomy x y with c | c | c
    · exact .inl (.inl c)
    · rcases ih with ih | ih
      · exact .inl (.inr ⟨c, ih⟩)
      · exact .inr (.inr ⟨c.symm, ih⟩)
    · exact .inr (.inl c)
theorem lexLe_anti : ∀ {a b : List Int}, lexLe a b = true → lexLe b a = true → a = b
  | [], [], _, _ => rfl
  | [], _ :: _, _, h => by cases h
  | _ :: _, [], h, _ => by cases h
  | x :: a, y :: b, h1, h2 => by
    rw [lexLe_cons] at *
    have e : x = y := by omega
    subst e
    rw [lexLe_anti (a := a) (b := b) (h1.elim (fun h => absurd h (Int.lt_irrefl _)) fun h => h.2) (h2.elim (fun h => absurd h (Int.lt_irrefl _)) fun h => h.2)]
theorem lexLe_refl : ∀ a : List Int, lexLe a a = true
  | [] => rfl
  | x :: a => lexLe_cons.mpr (.inr ⟨rfl, lexLe_refl a⟩)
/-- sorted(set(rows)) -/
def ssT (rs : List (List Int)) : List (List Int) := rs.eraseDups.mergeSort lexLe
theorem nodup_eraseDups {α : Type} [BEq α] [LawfulBEq α] : ∀ (n : Nat) (l : List α), l.length ≤ n → l.eraseDups.Nodup
  | _, [], _ => by simp
  | 0, _ :: _, h => by simp at h
  | n + 1, a :: l, h => by
    rw [List.eraseDups_cons, List.nodup_cons]
    refine ⟨?_, nodup_eraseDups n _ ?_⟩
    · rw [List.mem_eraseDups, List.mem_filter]
      simp
    · have := List.length_filter_le (fun b => !b == a) l
      rw [List.length_cons] at h
      omega
theorem eraseDups_len {α : Type} [BEq α] [LawfulBEq α] : ∀ (n : Nat) (l : List α), l.length ≤ n → l.eraseDups.length ≤ l.length
  | _, [], _ => by simp
  | 0, _ :: _, h => by simp at h
  | n + 1, a :: l, h => by
    rw [List.eraseDups_cons, List.length_cons, List.length_cons]
    have h1 := List.length_filter_le (fun b => !b == a) l
    rw [List.length_cons] at h
    have := eraseDups_len n (l.filter fun b => !b == a) (by omega)
    omega
theorem ssT_mem {rs : List (List Int)} {r : List Int} : r ∈ ssT rs ↔ r ∈ rs := by
  unfold ssT
  rw [(List.mergeSort_perm _ _).mem_iff, List.mem_eraseDups]
theorem ssT_nodup (rs : List (List Int)) : (ssT rs).Nodup := by
  unfold ssT
  rw [(List.mergeSort_perm _ _).nodup_iff]
  exact nodup_eraseDups _ _ (Nat.le_refl _)
theorem ssT_pw (rs : List (List Int)) : (ssT rs).Pairwise (fun a b => lexLe a b = true) :=
  List.pairwise_mergeSort (le := lexLe) (fun _ _ _ h1 h2 => lexLe_trans h1 h2) lexLe_total _
theorem ssT_eq {rs X : List (List Int)} (h1 : X.Nodup) (h2 : ∀ r, r ∈ X ↔ r ∈ rs) (h3 : X.Pairwise (fun a b => lexLe a b = true)) : X = ssT rs :=
  List.Perm.eq_of_pairwise (fun a b _ _ h1 h2 => lexLe_anti h1 h2) h3 (ssT_pw rs) ((List.perm_ext_iff_of_nodup h1 (ssT_nodup rs)).mpr fun r => by rw [h2, ssT_mem])
theorem ssT_congr {rs qs : List (List Int)} (h : ∀ r, r ∈ rs ↔ r ∈ qs) : ssT rs = ssT qs := ssT_eq (ssT_nodup rs) (fun r => by rw [ssT_mem, h]) (ssT_pw rs)
theorem code_lex : ∀ {a b : List Int}, a.length = b.length → TS.Bd 64 a → TS.Bd 64 b → TS.code 64 a ≤ TS.code 64 b → lexLe a b = true
  | [], [], _, _, _, _ => rfl
  | [], _ :: _, h, _, _, _ => by simp at h
  | _ :: _, [], h, _, _, _ => by simp at h
  | x :: a, y :: b, hl, h1, h2, h => by
    rw [List.length_cons, List.length_cons] at hl
    have hl' : a.length = b.length := by omega
    rw [lexLe_cons]
    rcases Int.lt_trichotomy x y with c | c | c
    · exact .inl c
    · subst c
      refine .inr ⟨rfl, code_lex hl' h1.tail h2.tail ?_⟩
      have := (TS.code_same (B := 64) (d := x) (r := b) (q := a) hl'.symm)
      omega
    · have := TS.code_lt (B := 64) hl'.symm h2.tail h1.tail c
      omega
def rowsD : List PyData → Option (List (List Int))
  | [] => some []
  | .tuple ds :: rest => (intsD ds).bind fun r => (rowsD rest).map fun rs => r :: rs
  | _ :: _ => none
theorem rowsD_map : ∀ rs : List (List Int), rowsD (rs.map fun r => PyData.tuple (r.map PyData.int)) = some rs
  | [] => rfl
  | r :: rs => by
    show (intsD (r.map PyData.int)).bind _ = _
    rw [intsD_map]
    show (rowsD (rs.map fun r => PyData.tuple (r.map PyData.int))).map _ = _
    rw [rowsD_map rs]
    rfl
theorem rowsD_den {K : PySem.W.Frag} {H : Hp} : ∀ {ds : List PyData} {rs : List (List Int)} {xs : List V}, rowsD ds = some rs → DenL K H xs ds → ∃ ks : List (Addr × List Int), xs = ks.map (fun p => V.ref p.1) ∧ ks.map (·.2) = rs ∧ ∀ p ∈ ks, Den K H (.ref p.1) (.tuple (p.2.map PyData.int)) ∧ SqT K H p.1 (p.2.map V.int)
  | [], _, _, h, hx => by
    cases h
    cases hx
    exact ⟨[], rfl, rfl, by simp⟩
  | d :: ds, rs, _, h, hx => by
    cases d <;> try (cases h)
    rename_i es
    obtain ⟨r, h1, h⟩ := bind_some h
    obtain ⟨rs', h2, rfl⟩ := map_some h
    cases hx with
    | cons a b =>
      obtain ⟨ks, e1, e2, e3⟩ := rowsD_den h2 b
      cases a with
      | tup hs hl dl =>
        have ev := intsD_vals h1 dl
        subst ev
        rename_i adr
        refine ⟨(adr, r) :: ks, by rw [List.map_cons, e1], by rw [List.map_cons, e2], fun p hp => ?_⟩
        rcases List.mem_cons.mp hp with rfl | hp
        · exact ⟨.tup hs (by have := dl.length; rw [List.length_map] at this; rw [List.length_map]; show r.length ≤ sizeLine; omega) (DenL.ints r), hs⟩
        · exact e3 p hp
def okRows (rs : List (List Int)) : Bool := decide (rs.length < 64) && rs.all fun r => decide (r.length = (rs.headD [0]).length) && decide (1 ≤ r.length) && r.all fun x => decide (0 ≤ x) && decide (x < 64)
theorem okRows_ok {rs : List (List Int)} (h : okRows rs = true) : rs.length < 64 ∧ ∃ d, 1 ≤ d ∧ ∀ r ∈ rs, r.length = d ∧ TS.Bd 64 r := by
  unfold okRows at h
  rw [Bool.and_eq_true, decide_eq_true_eq, List.all_eq_true] at h
  obtain ⟨h1, h2⟩ := h
  refine ⟨h1, ?_⟩
  match rs, h2 with
  | [], _ => exact ⟨1, Nat.le_refl _, by simp⟩
  | r :: rs, h2 =>
    have h0 := h2 r List.mem_cons_self
    simp only [Bool.and_eq_true, decide_eq_true_eq, List.all_eq_true] at h0
    refine ⟨r.length, h0.1.2, fun q hq => ?_⟩
    have h3 := h2 q hq
    simp only [Bool.and_eq_true, decide_eq_true_eq, List.all_eq_true, List.headD_cons] at h3
    exact ⟨of_decide_eq_true h3.1.1, fun m hm => h3.2 m hm⟩
def sortSetD : PyData → Option (List PyData)
  | .list ds => (rowsD ds).bind fun rs => if okRows rs = true then some ((ssT rs).map fun r => PyData.tuple (r.map PyData.int)) else none
  | _ => none
def eSortSet (f : En → Option PyData) : En → Option (List PyData) := fun ρ => (f ρ).bind sortSetD
section
variable {X : Cx} {a b c e : Expr} {es : List Expr} {fa fb fc f : En → Option PyData} {fs : En → Option (List PyData)} {pos p : Pos} {x : Str} {tg : Expr} {tf : En → Option Bool}
theorem den_rows {K : PySem.W.Frag} {H : Hp} : ∀ {ks : List (Addr × List Int)}, (∀ p ∈ ks, Den K H (.ref p.1) (.tuple (p.2.map PyData.int))) → DenL K H (ks.map fun p => V.ref p.1) ((ks.map (·.2)).map fun r => PyData.tuple (r.map PyData.int))
  | [], _ => .nil
  | p :: ks, h => .cons (h p List.mem_cons_self) (den_rows fun q hq => h q (List.mem_cons_of_mem _ hq))
theorem dl_sortSet {p2 q2 : Pos} (hc : X.calm = true) (hg : Gl X "sorted") (hm : X.mg "sorted" = none) (hg2 : Gl X "set") (hm2 : X.mg "set" = none) (hu : X.A.units + 64 < cLine) (he : DE X e f)
    (n1 : starEach (.Call (.Name "set" p2) [e] [] q2 :: []) X.env = (false, eval (.Call (.Name "set" p2) [e] [] q2) X.env) :: starEach [] X.env := by rfl) (n2 : starEach (e :: []) X.env = (false, eval e X.env) :: starEach [] X.env := by rfl) :
    DL X (.Call (.Name "sorted" p) [.Call (.Name "set" p2) [e] [] q2] [] pos) (eSortSet f) := by
  obtain ⟨t, pt, q⟩ := he
  refine ⟨_, pe_callB (cr_sortedT hc) hg hm (by decide +kernel) (pa_cons (pe_callTy (cr_setOfT hc hu) hg2 hm2 PyProof.Rows.boot_set (pa_cons pt pa_nil n2) (he := n2) (hpl := by rfl)) pa_nil n1) (he := n1) (hpl := by rfl), fun σ H1 H ρ cs Q s h k => ?_⟩
  obtain ⟨d1, h1, h⟩ := bind_some h
  cases d1 <;> try (cases h)
  rename_i ds
  obtain ⟨rs, h2, h⟩ := bind_some h
  obtain ⟨ok, rfl⟩ := of_if h
  obtain ⟨o1, d, o2, o3⟩ := okRows_ok ok
  refine q σ H1 H ρ _ _ s h1 fun v H1' H' x dv => ?_
  cases dv with
  | lst hs hl dl =>
    obtain ⟨ks, rfl, e2, e3⟩ := rowsD_den h2 dl
    subst e2
    have hks : ∀ p ∈ ks, p.2.length = d ∧ TS.Bd 64 p.2 := fun p hp => o3 p.2 (List.mem_map_of_mem hp)
    refine ⟨_, ks, rfl, x.sub.seq hs, fun p hp => sqT_mono x.sub (e3 p hp).2, by rw [List.length_map] at o1; exact o1, fun A L nA sub all => ?_⟩
    have x2 : Ext H1' H' H1' (upd H' A (SetTO X.prog X.w A L)) := .newMut x.sub nA
    refine ⟨A, L, d, 64, rfl, upd_same, fun p hp => sqT_mono x2.sub (e3 p (sub p hp)).2, o2, fun p hp => hks p (sub p hp), fun L' P pm nd few pw nP => ?_⟩
    have x3 : Ext H1' (upd H' A (SetTO X.prog X.w A L)) H1' (upd (upd H' A (SetTO X.prog X.w A L)) P (.lst (L'.map fun q => V.ref q.1))) := .newMut x2.sub nP
    have xx := (x.trans x2).trans x3
    have hsub : ∀ p ∈ L', p ∈ ks := fun p hp => sub p (pm.mem_iff.mp hp)
    have er : L'.map (·.2) = ssT (ks.map (·.2)) := by
      refine ssT_eq nd (fun r => ?_) ?_
      · rw [List.mem_map, List.mem_map]
        constructor
        · rintro ⟨p, hp, rfl⟩
          exact ⟨p, hsub p hp, rfl⟩
        · rintro ⟨p, hp, rfl⟩
          obtain ⟨p', hp', e⟩ := List.mem_map.mp (all p hp)
          exact ⟨p', pm.mem_iff.mpr hp', e⟩
      · rw [List.pairwise_map]
        refine List.Pairwise.imp_of_mem (fun {u v} hu hv huv => ?_) pw
        obtain ⟨a1, a2⟩ := hks u (hsub u hu)
        obtain ⟨b1, b2⟩ := hks v (hsub v hv)
        exact code_lex (a1.trans b1.symm) a2 b2 huv
    rw [← er] at k
    refine k P _ H1' _ xx ?_ upd_same (x2.sub.free nP) ?_ (den_rows fun p hp => (e3 p (hsub p hp)).1)
    · exact (Ext.same s.sub (x.trans x2)).free nP
    · rw [List.length_map, List.length_map, sizeLine_eq]; omega
/-! ### str(int) -/
def strD (ds : List PyData) : Option PyData := match ds with
  | [.int i] => if i.natAbs < 1000000000 then some (.str (toString i)) else none
  | _ => none
theorem v_str {K : PySem.W.Frag} : VN K (fun xs H Q => ∃ i : Int, xs = [.int i] ∧ i.natAbs.log2 < 1920 ∧ Q (.str (toString i)) H) strD := by
  intro xs ds c H1 H Q sm dx h k
  unfold strD at h
  split at h
  · obtain ⟨hl, rfl⟩ := of_if h
    rename_i i
    have e := DenL.ints_of (ns := [i]) dx
    subst e
    refine ⟨i, rfl, ?_, k _ H1 H (.refl sm) (.str _)⟩
    by_cases z : i.natAbs = 0
    · rw [z]; decide
    · rw [Nat.log2_lt z]
      refine Nat.lt_trans hl (Nat.lt_of_lt_of_le (show 1000000000 < 2 ^ 30 by decide) (Nat.pow_le_pow_right (by decide) (by decide)))
  · cases h

/-! ### x in xs, xs a list that the def changes -/
def eInM (i : Nat) (f : En → Option PyData) : En → Option PyData := fun ρ => (f ρ).bind fun d => match ρ[i]? with
  | some (some (.ml ds)) => inD d (.list ds)
  | _ => none
def eNinM (i : Nat) (f : En → Option PyData) : En → Option PyData := fun ρ => (f ρ).bind fun d => match ρ[i]? with
  | some (some (.ml ds)) => ninD d (.list ds)
  | _ => none
theorem ml_dp {K : PySem.W.Frag} {H1 H : Hp} {σ : L2.St} {ρ : En} {i : Nat} {ds : List PyData} (s : Sok K H1 H σ ρ) (e : ρ[i]? = some (some (.ml ds))) : ∃ v, σ[i]? = some (some v) ∧ Dp K H v (.list ds) := by
  obtain ⟨A, vs, eσ, hA, nA, hl, dl⟩ := s.ml e
  exact ⟨_, eσ, .lst (.of hA) (DenL.dp ds vs (DenL.mono s.sub _ _ dl))⟩
theorem den_ml {K : PySem.W.Frag} {H1 H : Hp} {A : Addr} {vs : List V} {ds : List PyData} (s : Same H1 H) (hA : H A = some (.lst vs)) (dl : DenL K H1 vs ds) : Dp K H (.ref A) (.list ds) :=
  .lst (.of hA) (DenL.dp ds vs (DenL.mono s _ _ dl))
theorem de_ninM (i : Nat) {x : Str} {px : Pos} (hu : X.A.units + 64 < cLine) (ha : DE X a fa) (hN : X.N[i]? = some x := by rfl) (hv : Vis X.env.scope x := by first | exact Or.inl rfl | exact Or.inr (Or.inl rfl) | exact Or.inr (Or.inr rfl)) (hd : (x == ("__debug__" : Str)) = false := by decide)
    (hcd : (x == ("__classdict__" : Str)) = false := by decide) (hm : behindInMarks .NotIn (.Name x px) = false := by rfl) : DE X (.Compare a [.NotIn] [.Name x px] pos) (eNinM i fa) := by
  obtain ⟨ta, pa, qa⟩ := ha
  refine ⟨_, pe_cmpR (op_ninA hu) pa (pe_var hN hv hd hcd) hm, fun σ H1 H ρ d Q s h k => ?_⟩
  obtain ⟨d1, h1, h⟩ := bind_some h
  split at h
  · rename_i ds em
    obtain ⟨A, vs, eσ, hA, nA, hl, dl⟩ := s.ml em
    refine qa σ H1 H ρ d1 _ s h1 fun v H1' H' x dv => ⟨_, eσ, ?_⟩
    obtain ⟨nA', hA'⟩ := x.fr A _ hA nA
    unfold ninD at h
    split at h
    · rename_i hg
      rw [Bool.and_eq_true] at hg
      cases h
      have gl := good_lay hg.2
      have gd := good_depth hg.2
      exact ⟨d1, ds, Den.dp _ _ (Den.mono x.sub _ _ dv), .inl (den_ml (x.st.trans x.sub) hA' dl), hg.1, by simpa only [PyData.canLay0] using gl, by simp only [PyData.depth] at gd; omega, k _ _ _ x (.bl _)⟩
    · cases h
  · cases h
theorem dt_ninM (i : Nat) {x : Str} {px : Pos} (hu : X.A.units + 64 < cLine) (ha : DE X a fa) (hN : X.N[i]? = some x := by rfl) (hv : Vis X.env.scope x := by first | exact Or.inl rfl | exact Or.inr (Or.inl rfl) | exact Or.inr (Or.inr rfl)) (hd : (x == ("__debug__" : Str)) = false := by decide)
    (hcd : (x == ("__classdict__" : Str)) = false := by decide) (hm : behindInMarks .NotIn (.Name x px) = false := by rfl) : DT X (.Compare a [.NotIn] [.Name x px] pos) (tB (eNinM i fa)) := by
  obtain ⟨ta, pa, qa⟩ := ha
  refine ⟨_, pt_cmpR (op_ninA hu) pa (pe_var hN hv hd hcd) hm, fun σ H1 H ρ d Q s h k => ?_⟩
  obtain ⟨d0, h, hb⟩ := bind_some h
  have e := asB_some hb
  subst e
  obtain ⟨d1, h1, h⟩ := bind_some h
  split at h
  · rename_i ds em
    obtain ⟨A, vs, eσ, hA, nA, hl, dl⟩ := s.ml em
    refine qa σ H1 H ρ d1 _ s h1 fun v H1' H' x dv => ⟨_, eσ, ?_⟩
    obtain ⟨nA', hA'⟩ := x.fr A _ hA nA
    unfold ninD at h
    split at h
    · rename_i hg
      rw [Bool.and_eq_true] at hg
      cases h
      have gl := good_lay hg.2
      have gd := good_depth hg.2
      exact ⟨d1, ds, Den.dp _ _ (Den.mono x.sub _ _ dv), .inl (den_ml (x.st.trans x.sub) hA' dl), hg.1, by simpa only [PyData.canLay0] using gl, by simp only [PyData.depth] at gd; omega, _, rfl, k _ _ x⟩
    · cases h
  · cases h
end
end Dv

namespace Dv
open PySem PySem.Spec PyProof.Rows L2

/-! ### how the functions of the slots are reckoned -/
section
variable {ρ : En} {f f' g fa fb fc : En → Option PyData} {fs fi : En → Option (List PyData)} {t u : En → Option Bool} {s s' : En → Option Out} {d e : PyData} {ds : List PyData} {i j : Nat}
@[simp] theorem eC_ap : eC d ρ = some d := rfl
@[simp] theorem eVar_0 : eVar 0 (some (.im d) :: ρ) = some d := rfl
@[simp] theorem eVar_s {x} : eVar (i + 1) (x :: ρ) = eVar i ρ := rfl
@[simp] theorem e1_ap {h} : e1 h f ρ = (f ρ).bind h := rfl
@[simp] theorem e2_ap {h} : e2 h f g ρ = (f ρ).bind fun d => (g ρ).bind fun e => h d e := rfl
@[simp] theorem e2L_ap {h} : e2L h f g ρ = (f ρ).bind fun d => (g ρ).bind fun e => h d e := rfl
@[simp] theorem eN_ap {h} : eN h fs ρ = (fs ρ).bind h := rfl
@[simp] theorem eNL_ap {h} : eNL h fs ρ = (fs ρ).bind h := rfl
@[simp] theorem eL_ap : eL fs ρ = (fs ρ).map PyData.list := rfl
@[simp] theorem eNil_ap : eNil ρ = some [] := rfl
@[simp] theorem eCons_ap : eCons f fs ρ = (f ρ).bind fun d => (fs ρ).map fun ds => d :: ds := rfl
@[simp] theorem tB_ap : tB f ρ = (f ρ).bind asB := rfl
@[simp] theorem asB_b {b} : asB (.bool b) = some b := rfl
@[simp] theorem tAndD_ap : tAndD t u ρ = (t ρ).bind fun b => if b = true then u ρ else some false := rfl
@[simp] theorem tOrD_ap : tOrD t u ρ = (t ρ).bind fun b => if b = true then some true else u ρ := rfl
@[simp] theorem tNotD_ap : tNotD t ρ = (t ρ).map fun b => !b := rfl
@[simp] theorem eAnd_ap : eAnd f g ρ = (tB f ρ).bind fun b => if b = true then g ρ else some (.bool false) := rfl
@[simp] theorem eOr_ap : eOr f g ρ = (tB f ρ).bind fun b => if b = true then some (.bool true) else g ρ := rfl
@[simp] theorem eNot_ap : eNot f ρ = (tB f ρ).map fun b => .bool (!b) := rfl
@[simp] theorem eIf_ap : eIf t f g ρ = (t ρ).bind fun b => if b = true then f ρ else g ρ := rfl
@[simp] theorem gN_ap : gN i d ρ = some (ρ.set i (some (.im d))) := rfl
@[simp] theorem sNil_ap : sNil ρ = some (.nx ρ) := rfl
@[simp] theorem sSeq_ap : sSeq s s' ρ = (s ρ).bind (thenD s') := rfl
@[simp] theorem thenD_nx : thenD s (.nx ρ) = s ρ := rfl
@[simp] theorem thenD_rt : thenD s (.rt d) = some (.rt d) := rfl
@[simp] theorem sAsg_ap {h} : sAsg f h ρ = (f ρ).bind fun d => (h d ρ).map Out.nx := rfl
@[simp] theorem sAsgL_ap : sAsgL i fs ρ = (fs ρ).map fun ds => .nx (ρ.set i (some (.ml ds))) := rfl
@[simp] theorem sIf_ap : sIf t s s' ρ = (t ρ).bind fun b => if b = true then s ρ else s' ρ := rfl
@[simp] theorem sRet_ap : sRet f ρ = (f ρ).map Out.rt := rfl
@[simp] theorem sFor_ap {h} : sFor fi h s ρ = (fi ρ).bind fun ds => forD h s ds ρ := rfl
@[simp] theorem sFrz_ap : sFrz i s ρ = s (frz i ρ) := rfl
@[simp] theorem forD_nil {h} : forD h s [] ρ = some (.nx ρ) := rfl
@[simp] theorem forD_cons {h} : forD h s (d :: ds) ρ = (h d ρ).bind fun ρ1 => (s ρ1).bind (loopD (forD h s ds)) := rfl
@[simp] theorem loopD_nx {go} : loopD go (.nx ρ) = go ρ := rfl
@[simp] theorem loopD_rt {go} : loopD go (.rt d) = some (.rt d) := rfl
@[simp] theorem gT_ap {n gs} : gT n gs (.tuple ds) ρ = if ds.length = n then gs ds ρ else none := rfl
@[simp] theorem gConsD_ap {h gs} : gConsD h gs (d :: ds) ρ = (h d ρ).bind fun ρ' => gs ds ρ' := rfl
@[simp] theorem gNilD_ap : gNilD [] ρ = some ρ := rfl
@[simp] theorem iSq_ap : iSq f ρ = (f ρ).bind asSeq := rfl
@[simp] theorem asSeq_l : asSeq (.list ds) = some ds := rfl
@[simp] theorem asSeq_t : asSeq (.tuple ds) = some ds := rfl
@[simp] theorem eLc_ap {spl is ow} : eLc fi spl is ow t f ρ = (fi ρ).bind fun ds => lcD spl is t f (wipeE ρ ow) ds := rfl
@[simp] theorem tYesD_ap : tYesD ρ = some true := rfl
@[simp] theorem oNo_ap : oNo ρ = some none := rfl
@[simp] theorem oSo_ap : oSo f ρ = (f ρ).bind asI := rfl
@[simp] theorem asI_i {k} : asI (.int k) = some (some k) := rfl
@[simp] theorem eSl_ap {l h} : eSl f l h ρ = (f ρ).bind fun d => (l ρ).bind fun lo => (h ρ).bind fun hi => slD lo hi d := rfl
@[simp] theorem slD_l {lo hi} : slD lo hi (.list ds) = some (.list (cutD ds lo hi)) := rfl
@[simp] theorem slD_t {lo hi} : slD lo hi (.tuple ds) = some (.tuple (cutD ds lo hi)) := rfl
@[simp] theorem setAllW_0 {is} : setAllW ρ [] is = ρ := rfl
@[simp] theorem setAllW_c {is} : setAllW ρ (i :: is) (d :: ds) = setAllW (ρ.set i (some (.im d))) is ds := rfl
@[simp] theorem wipeE_0 : wipeE ρ [] = ρ := rfl
@[simp] theorem wipeE_c {is} : wipeE ρ (i :: is) = (wipeE ρ is).set i none := rfl
@[simp] theorem splN_ap : splN d = some [d] := rfl
@[simp] theorem splT_ap {n} : splT n (.tuple ds) = if ds.length = n then some ds else none := rfl
@[simp] theorem outD_rt : outD (some (.rt d)) = some d := rfl
@[simp] theorem outD_nx : outD (some (.nx ρ)) = some .none := rfl
/-! lists that the def changes -/
@[simp] theorem gSubM_ap : gSubM i f d ρ = (f ρ).bind fun k => gSubK i k d ρ := rfl
@[simp] theorem gSubK_0 {k : Int} {ρ : En} : gSubK 0 (.int k) d (some (.ml ds) :: ρ) = (ixN ds.length k).map fun j => some (.ml (ds.set j d)) :: ρ := rfl
@[simp] theorem gSubK_s {k : Int} {x} : gSubK (i + 1) (.int k) d (x :: ρ) = (gSubK i (.int k) d ρ).map fun r => x :: r := by
  unfold gSubK
  simp only [List.getElem?_cons_succ]
  cases ρ[i]? with
  | none => rfl
  | some w =>
    cases w with
    | none => rfl
    | some w =>
      cases w with
      | ml ds =>
        simp only [Option.map_map]
        rfl
      | _ => rfl
def idxK (i : Nat) (k : PyData) (ρ : En) : Option PyData := match k, ρ[i]? with
  | .int n, some (some (.ml ds)) => atI ds n
  | _, _ => none
theorem eIdxM_ap : eIdxM i f ρ = (f ρ).bind fun k => idxK i k ρ := rfl
@[simp] theorem idxK_0 {k : Int} : idxK 0 (.int k) (some (.ml ds) :: ρ) = atI ds k := rfl
@[simp] theorem idxK_s {k : PyData} {x} : idxK (i + 1) k (x :: ρ) = idxK i k ρ := rfl
@[simp] theorem eTupM_0 : eTupM 0 (some (.ml ds) :: ρ) = some (.tuple ds) := rfl
@[simp] theorem eTupM_s {x} : eTupM (i + 1) (x :: ρ) = eTupM i ρ := rfl
@[simp] theorem eLenM_0 : eLenM 0 (some (.ml ds) :: ρ) = some (.int ds.length) := rfl
@[simp] theorem eLenM_s {x} : eLenM (i + 1) (x :: ρ) = eLenM i ρ := rfl
@[simp] theorem sApp_ap : sApp i f ρ = (f ρ).bind fun d => (appK i d ρ).map Out.nx := rfl
theorem appK_0 (h : ds.length < 16777216) : appK 0 d (some (.ml ds) :: ρ) = some (some (.ml (ds ++ [d])) :: ρ) := if_pos (by rw [sizeLine_eq]; exact h)
@[simp] theorem appK_s {x} : appK (i + 1) d (x :: ρ) = (appK i d ρ).map fun r => x :: r := by
  unfold appK
  simp only [List.getElem?_cons_succ]
  cases ρ[i]? with
  | none => rfl
  | some w =>
    cases w with
    | none => rfl
    | some w =>
      cases w with
      | ml ds =>
        simp only
        split <;> rfl
      | _ => rfl
@[simp] theorem frz_0 : frz 0 (some (.ml ds) :: ρ) = some (.im (.list ds)) :: ρ := rfl
@[simp] theorem frz_s {x} : frz (i + 1) (x :: ρ) = x :: frz i ρ := by
  unfold frz
  simp only [List.getElem?_cons_succ]
  cases ρ[i]? with
  | none => rfl
  | some w =>
    cases w with
    | none => rfl
    | some w => cases w <;> rfl
/-! ### data -/
@[simp] theorem addD_i {a b} : addD (.int a) (.int b) = some (.int (a + b)) := rfl
@[simp] theorem subD_i {a b} : subD (.int a) (.int b) = some (.int (a - b)) := rfl
@[simp] theorem negD_i {a} : negD (.int a) = some (.int (-a)) := rfl
@[simp] theorem ltD_i {a b} : ltD (.int a) (.int b) = some (.bool (decide (a < b))) := rfl
@[simp] theorem leD_i {a b} : leD (.int a) (.int b) = some (.bool (decide (a ≤ b))) := rfl
@[simp] theorem gtD_i {a b} : gtD (.int a) (.int b) = some (.bool (decide (b < a))) := rfl
@[simp] theorem geD_i {a b} : geD (.int a) (.int b) = some (.bool (decide (b ≤ a))) := rfl
theorem sz : (sizeLine : Nat) = 16777216 := sizeLine_eq
theorem addD_t {a b : List PyData} (h : a.length + b.length ≤ 16777216) : addD (.tuple a) (.tuple b) = some (.tuple (a ++ b)) := if_pos (by rw [sz]; exact h)
theorem addD_l {a b : List PyData} (h : a.length + b.length ≤ 16777216) : addD (.list a) (.list b) = some (.list (a ++ b)) := if_pos (by rw [sz]; exact h)
theorem catD_l {a b : List PyData} (h : a.length + b.length ≤ 16777216) : catD (.list a) (.list b) = some (a ++ b) := if_pos (by rw [sz]; exact h)
theorem mulD_l {a b : Int} (h : -(2 ^ 64) < a ∧ a < 2 ^ 64) : mulD2 (.int a) (.int b) = some (.int (a * b)) := if_pos (by unfold cMul; simp only [Bool.or_eq_true, decide_eq_true_eq]; omega)
theorem mulD_r {a b : Int} (h : -(2 ^ 64) < b ∧ b < 2 ^ 64) : mulD2 (.int a) (.int b) = some (.int (a * b)) := if_pos (by unfold cMul; simp only [Bool.or_eq_true, decide_eq_true_eq]; omega)
theorem modD_i {a b : Int} (h : 0 < b) : modD (.int a) (.int b) = some (.int (a % b)) := if_pos h
theorem fdivD_i {a b : Int} (h : 0 < b ∧ b < 1073741824) : fdivD (.int a) (.int b) = some (.int (a / b)) := if_pos ⟨h.1, by omega⟩
@[simp] theorem lenD_l : lenD [.list ds] = some (.int ds.length) := rfl
@[simp] theorem lenD_t : lenD [.tuple ds] = some (.int ds.length) := rfl
@[simp] theorem tupD_l : tupD [.list ds] = some (.tuple ds) := rfl
@[simp] theorem tupD_t : tupD [.tuple ds] = some (.tuple ds) := rfl
@[simp] theorem listD_l : listD [.list ds] = some ds := rfl
@[simp] theorem listD_t : listD [.tuple ds] = some ds := rfl
theorem minD2_i {a b : Int} : minD2 [.int a, .int b] = some (.int (min a b)) := by
  show some (PyData.int (if b < a then b else a)) = _
  congr 2
  omega
theorem maxD2_i {a b : Int} : maxD2 [.int a, .int b] = some (.int (max a b)) := by
  show some (PyData.int (if b > a then b else a)) = _
  congr 2
  omega
@[simp] theorem idxD_l {k} : idxD (.list ds) (.int k) = atI ds k := rfl
@[simp] theorem idxD_t {k} : idxD (.tuple ds) (.int k) = atI ds k := rfl
theorem mkT_ap (h : ds.length ≤ 16777216) : mkT ds = some (.tuple ds) := if_pos (by rw [sz]; exact h)
theorem mkL_ap (h : ds.length ≤ 16777216) : mkL ds = some ds := if_pos (by rw [sz]; exact h)
@[simp] theorem mkT_0 : mkT [] = some (.tuple []) := mkT_ap (by simp)
@[simp] theorem mkT_1 {a} : mkT [a] = some (.tuple [a]) := mkT_ap (by simp)
@[simp] theorem mkT_2 {a b} : mkT [a, b] = some (.tuple [a, b]) := mkT_ap (by simp)
@[simp] theorem mkL_0 : mkL [] = some [] := mkL_ap (by simp)
@[simp] theorem mkL_1 {a} : mkL [a] = some [a] := mkL_ap (by simp)
theorem rg1_i {k : Int} (h : 0 ≤ k ∧ k ≤ 16777216) : rg1 [.int k] = some (rng 0 k.toNat) := if_pos (by omega)
theorem rg2_i {a b : Int} (h : -4194304 ≤ a ∧ a ≤ 4194304 ∧ -4194304 ≤ b ∧ b ≤ 4194304) : rg2 [.int a, .int b] = some (rng a (b - a).toNat) := if_pos ⟨by omega, by omega⟩
@[simp] theorem eRg1_ap : eRg1 f ρ = (f ρ).bind rngD1 := rfl
@[simp] theorem eRg1T_ap : eRg1T f ρ = ((f ρ).bind rngD1).map PyData.tuple := rfl
theorem rngD1_i {k : Int} (h : 0 ≤ k ∧ k ≤ 4194304) : rngD1 (.int k) = some (rng 0 k.toNat) := by
  show (if rgOkB 0 k = true then some (rng 0 (k - 0).toNat) else none) = _
  rw [if_pos (by unfold rgOkB; simp; omega), Int.sub_zero]
theorem rg3_i {i j c : Int} {n : Nat} (h : rg3n i j c = some n) : rg3 [.int i, .int j, .int c] = some (rngC i c n) := by
  unfold rg3
  simp only [h, Option.map_some]
theorem rg3T_i {i j c : Int} {n : Nat} (h : rg3n i j c = some n) : rg3T [.int i, .int j, .int c] = some (.tuple (rngC i c n)) := by
  unfold rg3T
  rw [rg3_i h]
  rfl
theorem rg3n_dn {i j : Int} {n : Nat} (h : i.natAbs ≤ 4194304) (h2 : j.natAbs ≤ 4194304) (hn : (i - j).toNat = n) : rg3n i j (-1) = some n := by
  unfold rg3n
  rw [if_pos ⟨h, h2⟩, if_pos rfl, hn]
theorem rg3n_two {i j : Int} {n : Nat} (h : i.natAbs ≤ 4194304) (h2 : j.natAbs ≤ 4194304) (hn : (j - i + 1).toNat / 2 = n) : rg3n i j 2 = some n := by
  unfold rg3n
  rw [if_pos ⟨h, h2⟩, if_neg (by decide), if_pos rfl, hn]
@[simp] theorem revD_t : revD (.tuple ds) = some (.tuple ds.reverse) := rfl
@[simp] theorem revD_l : revD (.list ds) = some (.list ds.reverse) := rfl
@[simp] theorem eChain_ap {h h' : PyData → PyData → Option PyData} : eChain h h' fa fb fc ρ = (fa ρ).bind fun d => (fb ρ).bind fun e => ((h d e).bind asB).bind fun b => if b = true then (fc ρ).bind fun c => ((h' e c).bind asB).map PyData.bool else some (.bool false) := rfl
theorem eqD_bb (a b : Bool) : eqD (.bool a) (.bool b) = some (.bool (decide (a = b))) := by cases a <;> cases b <;> rfl
theorem neD_bb (a b : Bool) : neD (.bool a) (.bool b) = some (.bool (!decide (a = b))) := by cases a <;> cases b <;> rfl
theorem sortedD_t (ns : List Int) : sortedD [.tuple (ns.map PyData.int)] = some ((srt ns).map PyData.int) := by
  show (intsD (ns.map PyData.int)).map _ = _
  rw [intsD_map]
  rfl
theorem sortedD_l (ns : List Int) : sortedD [.list (ns.map PyData.int)] = some ((srt ns).map PyData.int) := by
  show (intsD (ns.map PyData.int)).map _ = _
  rw [intsD_map]
  rfl
@[simp] theorem eSortSet_ap : eSortSet f ρ = (f ρ).bind sortSetD := rfl
theorem iEn_ap : iEn f ρ = ((f ρ).bind asSeq).map (enD 0) := rfl
theorem atI_i {ds : List PyData} {k : Int} {n : Nat} {d : PyData} (hk : k = (n : Int)) (h : ds[n]? = some d) : atI ds k = some d := by
  subst hk
  exact atI_nat h

/-! ### good data, equality -/
def goodN (n : Nat) (d : PyData) : Prop := d.canLay0 = true ∧ d.depth ≤ n
theorem goodN.mono {n m : Nat} (h : goodN n d) (l : n ≤ m) : goodN m d := ⟨h.1, Nat.le_trans h.2 l⟩
theorem good_of {n : Nat} (h : goodN n d) (l : n ≤ 60 := by decide) : good d = true := by
  unfold good
  rw [h.1, decide_eq_true (Nat.le_trans h.2 l)]
  rfl
theorem goodN_int {k : Int} {n : Nat} : goodN n (.int k) := ⟨by simp [PyData.canLay0], by simp [PyData.depth]⟩
theorem goodN_bool {k : Bool} {n : Nat} : goodN n (.bool k) := ⟨by simp [PyData.canLay0], by simp [PyData.depth]⟩
theorem goodN_none {n : Nat} : goodN n .none := ⟨by simp [PyData.canLay0], by simp [PyData.depth]⟩
theorem all_lay {n : Nat} : ∀ {ds : List PyData}, (∀ d ∈ ds, goodN n d) → PyData.canLayAll0 ds = true ∧ PyData.depthAll ds ≤ n
  | [], _ => ⟨by simp [PyData.canLayAll0], by simp [PyData.depthAll]⟩
  | d :: ds, h => by
    obtain ⟨h1, h2⟩ := all_lay (ds := ds) fun x hx => h x (List.mem_cons_of_mem _ hx)
    obtain ⟨h3, h4⟩ := h d List.mem_cons_self
    exact ⟨by simp [PyData.canLayAll0, h1, h3], by simp only [PyData.depthAll]; omega⟩
theorem goodN_tuple {n : Nat} (h : ∀ d ∈ ds, goodN n d) : goodN (n + 1) (.tuple ds) := ⟨by simp only [PyData.canLay0]; exact (all_lay h).1, by simp only [PyData.depth]; have := (all_lay h).2; omega⟩
theorem goodN_list {n : Nat} (h : ∀ d ∈ ds, goodN n d) : goodN (n + 1) (.list ds) := ⟨by simp only [PyData.canLay0]; exact (all_lay h).1, by simp only [PyData.depth]; have := (all_lay h).2; omega⟩
/-! data without truths: equality is equality -/
mutual
def noB : PyData → Bool
  | .bool _ => false
  | .list ds => noBs ds
  | .tuple ds => noBs ds
  | .dict _ => false
  | _ => true
def noBs : List PyData → Bool
  | [] => true
  | d :: ds => noB d && noBs ds
end
mutual
theorem eqv_iff : ∀ (d e : PyData), noB d = true → noB e = true → (PyData.eqv d e = true ↔ d = e)
  | .none, e, _, h => by cases e <;> simp [PyData.eqv, noB] at *
  | .bool _, _, h, _ => by simp [noB] at h
  | .int i, e, _, h => by cases e <;> simp [PyData.eqv, noB] at *
  | .str i, e, _, h => by cases e <;> simp [PyData.eqv, noB] at *
  | .dict _, _, h, _ => by simp [noB] at h
  | .list ds, e, h1, h => by
    cases e with
    | list es =>
      simp only [noB] at h1 h
      simp only [PyData.eqv, PyData.list.injEq]
      exact eqvAll_iff ds es h1 h
    | _ => simp [PyData.eqv]
  | .tuple ds, e, h1, h => by
    cases e with
    | tuple es =>
      simp only [noB] at h1 h
      simp only [PyData.eqv, PyData.tuple.injEq]
      exact eqvAll_iff ds es h1 h
    | _ => simp [PyData.eqv]
theorem eqvAll_iff : ∀ (ds es : List PyData), noBs ds = true → noBs es = true → (PyData.eqvAll ds es = true ↔ ds = es)
  | [], [], _, _ => by simp [PyData.eqvAll]
  | [], _ :: _, _, _ => by simp [PyData.eqvAll]
  | _ :: _, [], _, _ => by simp [PyData.eqvAll]
  | d :: ds, e :: es, h1, h2 => by
    simp only [noBs, Bool.and_eq_true] at h1 h2
    simp only [PyData.eqvAll, Bool.and_eq_true, List.cons.injEq, eqv_iff d e h1.1 h2.1, eqvAll_iff ds es h1.2 h2.2]
end
theorem noBs_all : ∀ {ds : List PyData}, (∀ d ∈ ds, noB d = true) → noBs ds = true
  | [], _ => rfl
  | d :: ds, h => by
    show (noB d && noBs ds) = true
    rw [h d List.mem_cons_self, noBs_all fun x hx => h x (List.mem_cons_of_mem _ hx)]
    rfl
/-- plain: good and without truths -/
def pl (n : Nat) (d : PyData) : Prop := goodN n d ∧ noB d = true
theorem pl.mono {n m : Nat} (h : pl n d) (l : n ≤ m) : pl m d := ⟨h.1.mono l, h.2⟩
theorem pl_int {k : Int} {n : Nat} : pl n (.int k) := ⟨goodN_int, rfl⟩
theorem pl_none {n : Nat} : pl n .none := ⟨goodN_none, rfl⟩
theorem pl_tuple {n : Nat} (h : ∀ d ∈ ds, pl n d) : pl (n + 1) (.tuple ds) := ⟨goodN_tuple fun d hd => (h d hd).1, noBs_all fun d hd => (h d hd).2⟩
theorem pl_list {n : Nat} (h : ∀ d ∈ ds, pl n d) : pl (n + 1) (.list ds) := ⟨goodN_list fun d hd => (h d hd).1, noBs_all fun d hd => (h d hd).2⟩
theorem pl_two {n : Nat} {a b : PyData} (ha : pl n a) (hb : pl n b) : pl (n + 1) (.tuple [a, b]) := pl_tuple fun d hd => by
  rcases List.mem_cons.mp hd with rfl | hd
  · exact ha
  · rw [List.mem_singleton] at hd; subst hd; exact hb
theorem eqv_dec (h1 : noB d = true) (h2 : noB e = true) [Decidable (d = e)] : PyData.eqv d e = decide (d = e) := by
  have := eqv_iff d e h1 h2
  cases hq : PyData.eqv d e
  · rw [hq] at this
    exact (decide_eq_false fun z => by simpa using this.mpr z).symm
  · exact (decide_eq_true (this.mp hq)).symm
theorem eqD_pl {n m : Nat} (h1 : pl n d) (h2 : pl m e) {p : Prop} [Decidable p] (hp : d = e ↔ p) (l1 : n ≤ 60 := by decide) (l2 : m ≤ 60 := by decide) : eqD d e = some (.bool (decide p)) := by
  unfold eqD
  rw [good_of h1.1 l1, good_of h2.1 l2]
  have := (eqv_iff d e h1.2 h2.2).trans hp
  have e2 : PyData.eqv d e = decide p := by
    cases hq : PyData.eqv d e
    · exact (decide_eq_false fun z => by rw [hq] at this; simpa using this.mpr z).symm
    · exact (decide_eq_true (this.mp hq)).symm
  rw [e2]
  rfl
theorem neD_pl {n m : Nat} (h1 : pl n d) (h2 : pl m e) {p : Prop} [Decidable p] (hp : d = e ↔ p) (l1 : n ≤ 60 := by decide) (l2 : m ≤ 60 := by decide) : neD d e = some (.bool (!decide p)) := by
  have := eqD_pl h1 h2 hp l1 l2
  unfold eqD at this
  unfold neD
  rw [good_of h1.1 l1, good_of h2.1 l2] at this ⊢
  simp only [Bool.and_true, if_true, Option.some.injEq, PyData.bool.injEq] at this ⊢
  rw [this]
@[simp] theorem eqD_i {a b : Int} : eqD (.int a) (.int b) = some (.bool (decide (a = b))) := eqD_pl (n := 0) (m := 0) pl_int pl_int (by simp)
@[simp] theorem neD_i {a b : Int} : neD (.int a) (.int b) = some (.bool (!decide (a = b))) := neD_pl (n := 0) (m := 0) pl_int pl_int (by simp)
@[simp] theorem isN_n : isN d .none = some (.bool (isNonB d)) := rfl
@[simp] theorem notN_n : notN d .none = some (.bool (!isNonB d)) := rfl
@[simp] theorem isNonB_n : isNonB .none = true := rfl
@[simp] theorem isNonB_t : isNonB (.tuple ds) = false := rfl
/-- an empty list -/
theorem eqD_nil {n : Nat} (h : ∀ d ∈ ds, pl n d) (l : n + 1 ≤ 60 := by decide) : eqD (.list ds) (.list []) = some (.bool ds.isEmpty) := by
  rw [eqD_pl (p := ds = []) (pl_list h) (pl_list (n := 0) (ds := []) (by simp)) (by simp) l]
  cases ds <;> simp
theorem neD_nil {n : Nat} (h : ∀ d ∈ ds, pl n d) (l : n + 1 ≤ 60 := by decide) : neD (.list ds) (.list []) = some (.bool (!ds.isEmpty)) := by
  rw [neD_pl (p := ds = []) (pl_list h) (pl_list (n := 0) (ds := []) (by simp)) (by simp) l]
  cases ds <;> simp

/-! ### comprehensions -/
theorem lcD_spec {α : Type} {spl : PyData → Option (List PyData)} {is : List Nat} {ft : En → Option Bool} {fe : En → Option PyData} {ρ : En} (enc : α → PyData) (parts : α → List PyData) (p : α → Bool) (h : α → PyData) :
    ∀ (xs : List α), (∀ x ∈ xs, spl (enc x) = some (parts x) ∧ ft (setAllW ρ is (parts x)) = some (p x) ∧ (p x = true → fe (setAllW ρ is (parts x)) = some (h x))) → lcD spl is ft fe ρ (xs.map enc) = some ((xs.filter p).map h)
  | [], _ => rfl
  | x :: xs, H => by
    obtain ⟨h1, h2, h3⟩ := H x List.mem_cons_self
    have ih := lcD_spec enc parts p h xs fun y hy => H y (List.mem_cons_of_mem _ hy)
    show (spl (enc x)).bind _ = _
    rw [h1]
    show (ft (setAllW ρ is (parts x))).bind _ = _
    rw [h2]
    show (if p x = true then _ else _) = _
    rw [ih]
    by_cases hp : p x = true
    · rw [if_pos hp, h3 hp, List.filter_cons_of_pos hp]
      rfl
    · rw [if_neg hp, List.filter_cons_of_neg hp]
theorem lcD_map {α : Type} {spl : PyData → Option (List PyData)} {is : List Nat} {fe : En → Option PyData} {ρ : En} (enc : α → PyData) (parts : α → List PyData) (h : α → PyData) (xs : List α)
    (H : ∀ x ∈ xs, spl (enc x) = some (parts x) ∧ fe (setAllW ρ is (parts x)) = some (h x)) : lcD spl is tYesD fe ρ (xs.map enc) = some (xs.map h) := by
  have := lcD_spec (spl := spl) (is := is) (ft := tYesD) (fe := fe) (ρ := ρ) enc parts (fun _ => true) h xs fun x hx => ⟨(H x hx).1, rfl, fun _ => (H x hx).2⟩
  rw [this, List.filter_eq_self.mpr fun _ _ => rfl]
/-- a target that is one name -/
theorem lcD_mapN {α : Type} {i : Nat} {fe : En → Option PyData} {ρ : En} (enc h : α → PyData) (xs : List α) (H : ∀ x ∈ xs, fe (ρ.set i (some (.im (enc x)))) = some (h x)) : lcD splN [i] tYesD fe ρ (xs.map enc) = some (xs.map h) :=
  lcD_map enc (fun x => [enc x]) h xs fun x hx => ⟨rfl, H x hx⟩
theorem lcD_filN {α : Type} {i : Nat} {ft : En → Option Bool} {fe : En → Option PyData} {ρ : En} (enc : α → PyData) (p : α → Bool) (h : α → PyData) (xs : List α) (H : ∀ x ∈ xs, ft (ρ.set i (some (.im (enc x)))) = some (p x) ∧ (p x = true → fe (ρ.set i (some (.im (enc x)))) = some (h x))) :
    lcD splN [i] ft fe ρ (xs.map enc) = some ((xs.filter p).map h) := lcD_spec enc (fun x => [enc x]) p h xs fun x hx => ⟨rfl, H x hx⟩
end
/-- a loop that keeps to P and never leaves -/
theorem forD_inv {g : PyData → En → Option En} {f : En → Option Out} (P : En → Prop) : ∀ (ds : List PyData), (∀ d ∈ ds, ∀ ρ, P ρ → ∃ ρ1 ρ2, g d ρ = some ρ1 ∧ f ρ1 = some (.nx ρ2) ∧ P ρ2) → ∀ ρ, P ρ → ∃ ρ', forD g f ds ρ = some (.nx ρ') ∧ P ρ'
  | [], _, ρ, h => ⟨ρ, rfl, h⟩
  | d :: ds, H, ρ, h => by
    obtain ⟨ρ1, ρ2, e1, e2, h2⟩ := H d List.mem_cons_self ρ h
    obtain ⟨ρ', e3, h3⟩ := forD_inv P ds (fun d hd => H d (List.mem_cons_of_mem _ hd)) ρ2 h2
    refine ⟨ρ', ?_, h3⟩
    rw [forD_cons, e1, Option.bind_some, e2, Option.bind_some, loopD_nx]
    exact e3
theorem inD_pl {n m : Nat} {d : PyData} {ds : List PyData} (h1 : pl n d) (h2 : ∀ e ∈ ds, pl m e) (p : PyData → Bool) (hp : ∀ e ∈ ds, (e = d ↔ p e = true)) (l1 : n ≤ 60 := by decide) (l2 : m + 1 ≤ 60 := by decide) : inD d (.tuple ds) = some (.bool (ds.any p)) := by
  unfold inD
  rw [good_of h1.1 l1, good_of (pl_tuple h2).1 l2]
  simp only [Bool.and_true, if_true, Option.some.injEq, PyData.bool.injEq]
  rw [Bool.eq_iff_iff, List.any_eq_true, List.any_eq_true]
  constructor
  · rintro ⟨e, he, h⟩
    exact ⟨e, he, (hp e he).mp ((eqv_iff e d (h2 e he).2 h1.2).mp h)⟩
  · rintro ⟨e, he, h⟩
    exact ⟨e, he, (eqv_iff e d (h2 e he).2 h1.2).mpr ((hp e he).mpr h)⟩
theorem ninD_pl {n m : Nat} {d : PyData} {ds : List PyData} (h1 : pl n d) (h2 : ∀ e ∈ ds, pl m e) (p : PyData → Bool) (hp : ∀ e ∈ ds, (e = d ↔ p e = true)) (l1 : n ≤ 60 := by decide) (l2 : m + 1 ≤ 60 := by decide) : ninD d (.tuple ds) = some (.bool (!ds.any p)) := by
  have h := inD_pl h1 h2 p hp l1 l2
  unfold inD at h
  unfold ninD
  rw [good_of h1.1 l1, good_of (pl_tuple h2).1 l2] at h ⊢
  simp only [Bool.and_true, if_true, Option.some.injEq, PyData.bool.injEq] at h ⊢
  rw [h]
/-- a def that has n places, m of them none -/
theorem fnD_ap {n m : Nat} {f : En → Option Out} {ds : List PyData} (h : ds.length = n) : fnD n m f ds = outD (f (ds.map (fun d => some (.im d)) ++ List.replicate m none)) := if_pos h
end Dv

/-! Nets and rows, in plain Lean. -/
namespace Nt
open PySem

abbrev Sw := Nat × Nat
abbrev Net := List Sw
abbrev Row := List Int
def lo (p : Sw) (r : Row) : Int := min (r.getD p.1 0) (r.getD p.2 0)
def hi (p : Sw) (r : Row) : Int := max (r.getD p.1 0) (r.getD p.2 0)
def sw (p : Sw) (r : Row) : Row := (r.set p.1 (lo p r)).set p.2 (hi p r)
def run (n : Net) (r : Row) : Row := n.foldl (fun r p => sw p r) r
def SwOk (w : Nat) (p : Sw) : Prop := p.1 < w ∧ p.2 < w ∧ p.1 ≠ p.2
def Ok (w : Nat) (n : Net) : Prop := ∀ p ∈ n, SwOk w p
theorem sw_len (p : Sw) (r : Row) : (sw p r).length = r.length := by unfold sw; rw [List.length_set, List.length_set]
theorem run_nil (r : Row) : run [] r = r := rfl
theorem run_cons (p : Sw) (n : Net) (r : Row) : run (p :: n) r = run n (sw p r) := rfl
theorem run_app (n m : Net) (r : Row) : run (n ++ m) r = run m (run n r) := by unfold run; rw [List.foldl_append]
theorem run_len : ∀ (n : Net) (r : Row), (run n r).length = r.length
  | [], _ => rfl
  | p :: n, r => by rw [run_cons, run_len n, sw_len]
theorem Ok.nil (w : Nat) : Ok w [] := fun p h => by simp at h
theorem Ok.cons {w : Nat} {p : Sw} {n : Net} (h : SwOk w p) (h' : Ok w n) : Ok w (p :: n) := fun q hq => by
  rcases List.mem_cons.mp hq with rfl | hq
  · exact h
  · exact h' q hq
theorem Ok.head {w : Nat} {p : Sw} {n : Net} (h : Ok w (p :: n)) : SwOk w p := h p List.mem_cons_self
theorem Ok.tail {w : Nat} {p : Sw} {n : Net} (h : Ok w (p :: n)) : Ok w n := fun q hq => h q (List.mem_cons_of_mem _ hq)
theorem Ok.app {w : Nat} {n m : Net} (h : Ok w n) (h' : Ok w m) : Ok w (n ++ m) := fun q hq => (List.mem_append.mp hq).elim (h q) (h' q)
theorem Ok.take {w : Nat} {n : Net} (h : Ok w n) (k : Nat) : Ok w (n.take k) := fun q hq => h q (List.mem_of_mem_take hq)
theorem Ok.drop {w : Nat} {n : Net} (h : Ok w n) (k : Nat) : Ok w (n.drop k) := fun q hq => h q (List.mem_of_mem_drop hq)
theorem getD_map (f : Int → Int) (r : Row) {i : Nat} (h : i < r.length) : (r.map f).getD i 0 = f (r.getD i 0) := by
  simp [List.getD_eq_getElem?_getD, List.getElem?_eq_getElem h]
/-- what stands on a line behind a swap -/
theorem sw_get (p : Sw) (r : Row) (h : SwOk r.length p) (i : Nat) : (sw p r).getD i 0 = if i = p.2 then hi p r else if i = p.1 then lo p r else r.getD i 0 := by
  unfold sw
  rw [List.getD_eq_getElem?_getD, List.getElem?_set, List.getElem?_set, List.length_set]
  obtain ⟨h1, h2, h3⟩ := h
  by_cases e2 : i = p.2
  · subst e2
    rw [if_pos rfl, if_pos h2, if_pos rfl]
    rfl
  · rw [if_neg fun z => e2 z.symm, if_neg e2]
    by_cases e1 : i = p.1
    · subst e1
      rw [if_pos rfl, if_pos h1, if_pos rfl]
      rfl
    · rw [if_neg fun z => e1 z.symm, if_neg e1, List.getD_eq_getElem?_getD]

/-! ### maps that rise -/
def Rises (f : Int → Int) : Prop := ∀ a b, a ≤ b → f a ≤ f b
theorem Rises.min {f : Int → Int} (h : Rises f) (a b : Int) : f (min a b) = min (f a) (f b) := by
  have h1 := h a b
  have h2 := h b a
  by_cases hab : a ≤ b
  · rw [Int.min_eq_left hab, Int.min_eq_left (h1 hab)]
  · rw [Int.min_eq_right (by omega), Int.min_eq_right (h2 (by omega))]
theorem Rises.max {f : Int → Int} (h : Rises f) (a b : Int) : f (max a b) = max (f a) (f b) := by
  have h1 := h a b
  have h2 := h b a
  by_cases hab : a ≤ b
  · rw [Int.max_eq_right hab, Int.max_eq_right (h1 hab)]
  · rw [Int.max_eq_left (by omega), Int.max_eq_left (h2 (by omega))]
theorem sw_map {f : Int → Int} (h : Rises f) {p : Sw} {r : Row} (hp : SwOk r.length p) : sw p (r.map f) = (sw p r).map f := by
  unfold sw lo hi
  rw [getD_map f r hp.1, getD_map f r hp.2.1, ← h.min, ← h.max, List.map_set, List.map_set]
theorem run_map {f : Int → Int} (h : Rises f) : ∀ {n : Net} {r : Row}, Ok r.length n → run n (r.map f) = (run n r).map f
  | [], _, _ => rfl
  | p :: n, r, ok => by
    rw [run_cons, run_cons, sw_map h ok.head, run_map h (by rw [sw_len]; exact ok.tail)]

/-! ### in order -/
def ord : Row → Bool
  | a :: b :: r => decide (a ≤ b) && ord (b :: r)
  | _ => true
theorem ord_iff : ∀ r : Row, ord r = true ↔ ∀ i, i + 1 < r.length → r.getD i 0 ≤ r.getD (i + 1) 0
  | [] => by simp [ord]
  | [a] => by simp [ord]
  | a :: b :: r => by
    unfold ord
    rw [Bool.and_eq_true, decide_eq_true_eq, ord_iff (b :: r)]
    constructor
    · rintro ⟨h1, h2⟩ i hi
      cases i with
      | zero => exact h1
      | succ i => exact h2 i (by simpa using hi)
    · intro h
      exact ⟨h 0 (by simp), fun i hi => h (i + 1) (by simpa using hi)⟩
theorem ord_le {r : Row} (h : ord r = true) : ∀ {i j : Nat}, i ≤ j → j < r.length → r.getD i 0 ≤ r.getD j 0 := fun {i j} hij hj => by
  have key := (ord_iff r).mp h
  induction j with
  | zero => rw [Nat.le_zero.mp hij]; exact Int.le_refl _
  | succ j ih =>
    by_cases e : i = j + 1
    · rw [e]; exact Int.le_refl _
    · exact Int.le_trans (ih (by omega) (by omega)) (key j hj)
theorem ord_of {r : Row} (h : ∀ i j : Nat, i < j → j < r.length → r.getD i 0 ≤ r.getD j 0) : ord r = true := (ord_iff r).mpr fun i hi => h i (i + 1) (by omega) hi
/-- noughts and ones -/
def plain : Nat → List Row
  | 0 => [[]]
  | w + 1 => (plain w).map (fun r => r ++ [0]) ++ (plain w).map (fun r => r ++ [1])
theorem plain_mem : ∀ {w : Nat} {r : Row}, r ∈ plain w ↔ r.length = w ∧ ∀ x ∈ r, x = 0 ∨ x = 1
  | 0, r => by
    unfold plain
    rw [List.mem_singleton]
    constructor
    · rintro rfl; simp
    · rintro ⟨h, _⟩; exact List.eq_nil_of_length_eq_zero h
  | w + 1, r => by
    unfold plain
    rw [List.mem_append, List.mem_map, List.mem_map]
    constructor
    · rintro (⟨q, hq, rfl⟩ | ⟨q, hq, rfl⟩)
      · obtain ⟨h1, h2⟩ := plain_mem.mp hq
        refine ⟨by simp [h1], fun x hx => ?_⟩
        rcases List.mem_append.mp hx with hx | hx
        · exact h2 x hx
        · rw [List.mem_singleton] at hx; exact .inl hx
      · obtain ⟨h1, h2⟩ := plain_mem.mp hq
        refine ⟨by simp [h1], fun x hx => ?_⟩
        rcases List.mem_append.mp hx with hx | hx
        · exact h2 x hx
        · rw [List.mem_singleton] at hx; exact .inr hx
    · rintro ⟨h1, h2⟩
      have hne : r ≠ [] := fun e => by rw [e] at h1; simp at h1
      have e : r.dropLast ++ [r.getLast hne] = r := List.dropLast_concat_getLast hne
      have hq : r.dropLast ∈ plain w := plain_mem.mpr ⟨by rw [List.length_dropLast]; omega, fun x hx => h2 x (List.dropLast_subset _ hx)⟩
      rcases h2 (r.getLast hne) (List.getLast_mem hne) with z | z
      · left
        refine ⟨_, hq, ?_⟩
        rw [z] at e
        exact e
      · right
        refine ⟨_, hq, ?_⟩
        rw [z] at e
        exact e
theorem plain_len (w : Nat) : (plain w).length = 2 ^ w := by
  induction w with
  | zero => rfl
  | succ w ih =>
    unfold plain
    rw [List.length_append, List.length_map, List.length_map, ih]
    omega
def step (c : Int) (x : Int) : Int := if x > c then 1 else 0
theorem step_rises (c : Int) : Rises (step c) := fun a b h => by
  unfold step
  split <;> split <;> omega
theorem step_plain (c : Int) (r : Row) : r.map (step c) ∈ plain r.length := plain_mem.mpr ⟨by rw [List.length_map], fun x hx => by
  obtain ⟨y, _, rfl⟩ := List.mem_map.mp hx
  unfold step
  split
  · exact .inr rfl
  · exact .inl rfl⟩
/-- between two lines: what holds of noughts and ones holds of all -/
theorem zero_one_pair {n : Net} {w i j : Nat} (ok : Ok w n) (h : ∀ q ∈ plain w, (run n q).getD i 0 ≤ (run n q).getD j 0) (hi : i < w) (hj : j < w) {r : Row} (hr : r.length = w) : (run n r).getD i 0 ≤ (run n r).getD j 0 := by
  have hq := h (r.map (step ((run n r).getD j 0))) (by rw [← hr]; exact step_plain _ _)
  rw [run_map (step_rises _) (by rw [hr]; exact ok), getD_map _ _ (by rw [run_len]; omega), getD_map _ _ (by rw [run_len]; omega)] at hq
  unfold step at hq
  split at hq
  · split at hq <;> omega
  · omega
/-- .. for rows of some kind that is kept -/
theorem zero_one_of {n : Net} {w : Nat} (ok : Ok w n) {r : Row} (hr : r.length = w) (h : ∀ c : Int, ord (run n (r.map (step c))) = true) : ord (run n r) = true := by
  refine (ord_iff _).mpr fun i hi => ?_
  rw [run_len] at hi
  have hq := (ord_iff _).mp (h ((run n r).getD (i + 1) 0)) i (by rw [run_len, List.length_map]; exact hi)
  rw [run_map (step_rises _) (by rw [hr]; exact ok), getD_map _ _ (by rw [run_len]; omega), getD_map _ _ (by rw [run_len]; omega)] at hq
  unfold step at hq
  split at hq
  · split at hq <;> omega
  · omega
theorem zero_one {n : Net} {w : Nat} (ok : Ok w n) (h : ∀ q ∈ plain w, ord (run n q) = true) {r : Row} (hr : r.length = w) : ord (run n r) = true :=
  zero_one_of ok hr fun c => h _ (by rw [← hr]; exact step_plain _ _)
end Nt

/-! nets and rows as data -/
namespace Dv
open PySem PySem.Spec PyProof.Rows L2
def swD (p : Nt.Sw) : PyData := .tuple [.int p.1, .int p.2]
def netD (n : Nt.Net) : PyData := .tuple (n.map swD)
def rowD (r : Nt.Row) : PyData := .tuple (r.map .int)
def optRow : Option Nt.Row → PyData
  | none => .none
  | some q => rowD q
theorem opt_non (o : Option Nt.Row) : isNonB (optRow o) = !o.isSome := by cases o <;> rfl
theorem bools_map : ∀ bs : List Bool, bools (bs.map PyData.bool) = some bs
  | [] => rfl
  | b :: bs => by
    show (bools (bs.map PyData.bool)).map (fun c => b :: c) = _
    rw [bools_map bs]
    rfl
theorem at_row {r : Nt.Row} {k : Nat} (h : k < r.length) : atI (r.map PyData.int) (k : Int) = some (.int (r.getD k 0)) :=
  atI_nat (by rw [List.getElem?_map, List.getElem?_eq_getElem h, List.getD_eq_getElem?_getD, List.getElem?_eq_getElem h]; rfl)
theorem ixN_nat {n k : Nat} (h : k < n) : ixN n (k : Int) = some k := by
  unfold ixN
  rw [if_pos (by omega), if_pos (by omega)]
  rfl
theorem map_set_int (r : Nt.Row) (k : Nat) (x : Int) : (r.map PyData.int).set k (.int x) = (r.set k x).map PyData.int := by rw [List.map_set]
theorem pl_sw (p : Nt.Sw) : pl 1 (swD p) := pl_two pl_int pl_int
theorem pl_net (n : Nt.Net) : pl 2 (netD n) := pl_tuple fun d hd => by
  obtain ⟨p, _, rfl⟩ := List.mem_map.mp hd
  exact pl_sw p
theorem pl_row (r : Nt.Row) : pl 1 (rowD r) := pl_tuple fun d hd => by
  obtain ⟨p, _, rfl⟩ := List.mem_map.mp hd
  exact pl_int
theorem ints_inj : ∀ {a b : List Int}, a.map PyData.int = b.map PyData.int → a = b
  | [], [], _ => rfl
  | [], _ :: _, h => by simp at h
  | _ :: _, [], h => by simp at h
  | x :: a, y :: b, h => by
    simp only [List.map_cons, List.cons.injEq, PyData.int.injEq] at h
    rw [h.1, ints_inj h.2]
theorem rowD_inj {a b : Nt.Row} : rowD a = rowD b ↔ a = b := ⟨fun h => ints_inj (PyData.tuple.inj h), fun h => by rw [h]⟩
theorem swD_inj {p q : Nt.Sw} : swD p = swD q ↔ p = q := by
  constructor
  · intro h
    have h := PyData.tuple.inj h
    simp only [List.cons.injEq, PyData.int.injEq, and_true] at h
    obtain ⟨a, b⟩ := p
    obtain ⟨c, d⟩ := q
    simp only at h
    rw [Prod.mk.injEq]
    omega
  · intro h; rw [h]
theorem sws_inj : ∀ {a b : Nt.Net}, a.map swD = b.map swD → a = b
  | [], [], _ => rfl
  | [], _ :: _, h => by simp at h
  | _ :: _, [], h => by simp at h
  | x :: a, y :: b, h => by
    simp only [List.map_cons, List.cons.injEq] at h
    rw [swD_inj.mp h.1, sws_inj h.2]
theorem netD_inj {a b : Nt.Net} : netD a = netD b ↔ a = b := ⟨fun h => sws_inj (PyData.tuple.inj h), fun h => by rw [h]⟩
theorem cut_to {α : Type} (xs : List α) (k : Nat) : cutD xs none (some (k : Int)) = xs.take k := by
  unfold cutD
  rw [HT.sIx_none, HT.sIx_nat, List.drop_zero, Nat.sub_zero]
  by_cases h : k ≤ xs.length
  · rw [Nat.min_eq_left h]
  · rw [Nat.min_eq_right (by omega), List.take_length, List.take_of_length_le (by omega)]
theorem cut_from {α : Type} (xs : List α) (k : Nat) : cutD xs (some (k : Int)) none = xs.drop k := by
  unfold cutD
  rw [HT.sIx_none, HT.sIx_nat]
  by_cases h : k ≤ xs.length
  · rw [Nat.min_eq_left h, List.take_of_length_le (by rw [List.length_drop]; omega)]
  · rw [Nat.min_eq_right (by omega), List.drop_of_length_le (Nat.le_refl _), List.drop_of_length_le (by omega), List.take_nil]
theorem cut_last {α : Type} (xs : List α) : cutD xs none (some (-1)) = xs.dropLast := by
  unfold cutD
  rw [HT.sIx_none]
  have e : HT.sIx xs.length xs.length (some (-1)) = xs.length - 1 := by
    have h := HT.clip_eq (-1) xs.length xs.length
    rw [if_pos (by omega)] at h
    omega
  rw [e, List.drop_zero, Nat.sub_zero, List.dropLast_eq_take]
theorem rng0 (n : Nat) : rng 0 n = (List.range n).map fun i => PyData.int ((i : Nat) : Int) := by
  unfold rng
  refine List.map_congr_left fun i _ => ?_
  rw [Int.zero_add]
theorem kit_tt {ds : List PyData} : isiD "tuple" (.tuple ds) = some (.bool true) := by
  show (kitB "tuple" "tuple").map PyData.bool = _
  rw [show kitB "tuple" "tuple" = some true by decide +kernel]
  rfl
theorem kit_ib {i : Int} : isiD "bool" (.int i) = some (.bool false) := by
  show (kitB "int" "bool").map PyData.bool = _
  rw [show kitB "int" "bool" = some false by decide +kernel]
  rfl
theorem kit_ii {i : Int} : isiD "int" (.int i) = some (.bool true) := by
  show (kitB "int" "int").map PyData.bool = _
  rw [show kitB "int" "int" = some true by decide +kernel]
  rfl
theorem kit_bb {b : Bool} : isiD "bool" (.bool b) = some (.bool true) := by
  show (kitB "bool" "bool").map PyData.bool = _
  rw [show kitB "bool" "bool" = some true by decide +kernel]
  rfl
theorem any_sw (p : Nt.Sw) (n : Nt.Net) : ((n.map swD).any fun e => PyData.eqv e (swD p)) = decide (p ∈ n) := by
  rw [Bool.eq_iff_iff, List.any_eq_true, decide_eq_true_eq]
  constructor
  · rintro ⟨e, he, h⟩
    obtain ⟨q, hq, rfl⟩ := List.mem_map.mp he
    have := (eqv_iff (swD q) (swD p) (pl_sw q).2 (pl_sw p).2).mp h
    rw [← swD_inj.mp this]
    exact hq
  · intro h
    exact ⟨swD p, List.mem_map_of_mem h, (eqv_iff _ _ (pl_sw p).2 (pl_sw p).2).mpr rfl⟩
theorem in_net (p : Nt.Sw) (n : Nt.Net) : inD (swD p) (netD n) = some (.bool (decide (p ∈ n))) := by
  unfold inD netD
  rw [good_of (pl_sw p).1 (by decide), good_of (show pl 2 (.tuple (n.map swD)) from pl_net n).1 (by decide)]
  simp only [Bool.and_true, if_true, any_sw]
theorem nin_net (p : Nt.Sw) (n : Nt.Net) : ninD (swD p) (netD n) = some (.bool (!decide (p ∈ n))) := by
  unfold ninD netD
  rw [good_of (pl_sw p).1 (by decide), good_of (show pl 2 (.tuple (n.map swD)) from pl_net n).1 (by decide)]
  simp only [Bool.and_true, if_true, any_sw]
theorem neD_net (n : Nt.Net) : neD (netD n) (netD n) = some (.bool false) := by
  rw [neD_pl (p := True) (pl_net _) (pl_net _) (by simp)]
  rfl
theorem eqD_net (n : Nt.Net) : eqD (netD n) (netD n) = some (.bool true) := by
  rw [eqD_pl (p := True) (pl_net _) (pl_net _) (by simp)]
  rfl
theorem neD_row (n : Nt.Row) : neD (rowD n) (rowD n) = some (.bool false) := by
  rw [neD_pl (p := True) (pl_row _) (pl_row _) (by simp)]
  rfl
theorem eqD_row (n : Nt.Row) : eqD (rowD n) (rowD n) = some (.bool true) := by
  rw [eqD_pl (p := True) (pl_row _) (pl_row _) (by simp)]
  rfl
theorem add_net {n m : Nt.Net} (h : n.length + m.length ≤ 10000) : addD (netD n) (netD m) = some (netD (n ++ m)) := by
  unfold netD
  rw [addD_t (by rw [List.length_map, List.length_map]; omega), List.map_append]
theorem len_net (n : Nt.Net) : lenD [netD n] = some (.int (n.length : Int)) := by unfold netD; rw [lenD_t, List.length_map]
theorem cut_net_to (n : Nt.Net) (k : Nat) : slD none (some (k : Int)) (netD n) = some (netD (n.take k)) := by unfold netD; rw [slD_t, cut_to, List.map_take]
theorem cut_net_from (n : Nt.Net) (k : Nat) : slD (some (k : Int)) none (netD n) = some (netD (n.drop k)) := by unfold netD; rw [slD_t, cut_from, List.map_drop]
end Dv

namespace Dv
open PySem PySem.Spec PyProof.Rows L2

/-! ### dicts with int keys -/
abbrev KD := List (Int × PyData)
def lookK (kvs : KD) (k : Int) : Option PyData := (kvs.find? fun kv => decide (kv.1 = k)).map (·.2)
def putD (kvs : KD) (k : Int) (d : PyData) : KD :=
  if (kvs.any fun kv => decide (kv.1 = k)) = true then kvs.map (fun kv => if kv.1 = k then (kv.1, d) else kv) else kvs ++ [(k, d)]
section
variable {K : PySem.W.Frag} {H : Hp}
theorem kvs_look {k : Int} : ∀ {ws : List (Key × V)} {kvs : KD}, DenKV K H ws kvs → (lookK kvs k = none → valV ws (Sum.inl k) = none) ∧ ∀ d, lookK kvs k = some d → ∃ v, valV ws (Sum.inl k) = some v ∧ Den K H v d
  | _, _, .nil => ⟨fun _ => rfl, fun d h => by simp [lookK] at h⟩
  | p :: ws, q :: kvs, .cons a b => by
    obtain ⟨e1, e2⟩ := a
    obtain ⟨i1, i2⟩ := kvs_look (k := k) b
    by_cases c : q.1 = k
    · have c' : p.1 = Sum.inl k := by rw [e1, c]
      have hl : lookK (q :: kvs) k = some q.2 := by unfold lookK; rw [List.find?_cons_of_pos (by simpa using c)]; rfl
      refine ⟨fun h => (by rw [hl] at h; cases h), fun d h => ?_⟩
      rw [hl] at h
      cases h
      exact ⟨p.2, valV_pos c', e2⟩
    · have c' : ¬ p.1 = Sum.inl k := fun h => c (by rw [e1] at h; exact Sum.inl.inj h)
      have hl : lookK (q :: kvs) k = lookK kvs k := by unfold lookK; rw [List.find?_cons_of_neg (by simpa using c)]
      rw [hl, valV_neg c']
      exact ⟨i1, i2⟩
theorem kvs_any {k : Int} : ∀ {ws : List (Key × V)} {kvs : KD}, DenKV K H ws kvs → (ws.any fun kv => decide (kv.1 = Sum.inl k)) = kvs.any fun kv => decide (kv.1 = k)
  | _, _, .nil => rfl
  | p :: ws, q :: kvs, .cons a b => by
    rw [List.any_cons, List.any_cons, kvs_any b]
    congr 1
    rw [decide_eq_decide, a.1]
    exact ⟨fun h => Sum.inl.inj h, fun h => by rw [h]⟩
theorem kvs_map {k : Int} {v : V} {d : PyData} (dv : Den K H v d) : ∀ {ws : List (Key × V)} {kvs : KD}, DenKV K H ws kvs → DenKV K H (ws.map fun kv => if kv.1 = Sum.inl k then (kv.1, v) else kv) (kvs.map fun kv => if kv.1 = k then (kv.1, d) else kv)
  | _, _, .nil => .nil
  | p :: ws, q :: kvs, .cons a b => by
    refine .cons ?_ (kvs_map dv b)
    dsimp only
    by_cases c : q.1 = k
    · rw [if_pos c, if_pos (by rw [a.1, c])]
      exact ⟨a.1, dv⟩
    · rw [if_neg c, if_neg fun h => c (by rw [a.1] at h; exact Sum.inl.inj h)]
      exact a
theorem kvs_app : ∀ {ws us : List (Key × V)} {kvs ls : KD}, DenKV K H ws kvs → DenKV K H us ls → DenKV K H (ws ++ us) (kvs ++ ls)
  | _, _, _, _, .nil, h => h
  | _, _, _, _, .cons a b, h => .cons a (kvs_app b h)
theorem kvs_put {k : Int} {v : V} {d : PyData} {ws : List (Key × V)} {kvs : KD} (h : DenKV K H ws kvs) (dv : Den K H v d) : DenKV K H (putK ws (Sum.inl k) v) (putD kvs k d) := by
  unfold putK putD
  rw [kvs_any h]
  split
  · exact kvs_map dv h
  · exact kvs_app h (.cons ⟨rfl, dv⟩ .nil)
theorem kvs_len : ∀ {ws : List (Key × V)} {kvs : KD}, DenKV K H ws kvs → ws.length = kvs.length
  | _, _, .nil => rfl
  | _, _, .cons _ b => by rw [List.length_cons, List.length_cons, kvs_len b]
theorem kvs_mono {H' : Hp} (s : Same H H') {ws : List (Key × V)} {kvs : KD} (h : DenKV K H ws kvs) : DenKV K H' ws kvs := Paired.mapP h fun p z ⟨e1, e2⟩ => ⟨e1, Den.mono s _ _ e2⟩
end
theorem putD_len (kvs : KD) (k : Int) (d : PyData) : (putD kvs k d).length ≤ kvs.length + 1 := by
  unfold putD
  split
  · rw [List.length_map]; omega
  · rw [List.length_append]; simp
def sNewD (i : Nat) : En → Option Out := fun ρ => some (.nx (ρ.set i (some (.md []))))
def putM (i : Nat) (k d : PyData) (ρ : En) : Option En := match k, ρ[i]? with
  | .int k, some (some (.md kvs)) => if kvs.length < 1000000 then some (ρ.set i (some (.md (putD kvs k d)))) else none
  | _, _ => none
def gPutM (i : Nat) (fk : En → Option PyData) : PyData → En → Option En := fun d ρ => (fk ρ).bind fun k => putM i k d ρ
def getM (i : Nat) (k d : PyData) (ρ : En) : Option PyData := match k, ρ[i]? with
  | .int k, some (some (.md kvs)) => some ((lookK kvs k).getD d)
  | _, _ => none
def eGetM (i : Nat) (fk fd : En → Option PyData) : En → Option PyData := fun ρ => (fk ρ).bind fun k => (fd ρ).bind fun d => getM i k d ρ
section
variable {X : Cx} {a b c e : Expr} {es : List Expr} {fa fb fc f : En → Option PyData} {fs : En → Option (List PyData)} {pos p : Pos} {x : Str} {tg : Expr} {tf : En → Option Bool}
theorem Sok.md {K : PySem.W.Frag} {H1 H : Hp} {σ : L2.St} {ρ : En} {i : Nat} {kvs : KD} (s : Sok K H1 H σ ρ) (e : ρ[i]? = some (some (.md kvs))) : ∃ a ws, σ[i]? = some (some (.ref a)) ∧ H a = some (.dK ws) ∧ H1 a = none ∧ kvs.length ≤ sizeLine ∧ DenKV K H1 ws kvs := by
  obtain ⟨v, e1, a, vs, rfl, h⟩ := s.at_ i _ e
  exact ⟨a, vs, e1, h⟩
theorem ds_newD (i : Nat) {x : Str} {pos' dpos : Pos} (hN : X.N.Nodup) (hi : X.N[i]? = some x := by rfl) (hx : Loc X.env.scope x := by first | exact Or.inl rfl | exact Or.inr rfl) (hs : swapsWith (.Dict [] [] dpos) (some (.Name x pos')) pos.line X.env = pure false := by rfl) (hf : X.fn x = true ∨ X.env.scope.names.lookup x = some .local := by first | exact .inl rfl | exact .inr rfl) :
    DS X (.Assign [.Name x pos'] (.Dict [] [] dpos) pos) (sNewD i) := by
  refine ⟨_, ps_set hN hi hx pe_dnewK hs hf, fun B1 B H1 H σ ρ o D s e k => ?_⟩
  cases e
  intro p n
  exact k _ H1 _ (Same.refl _) (s.setM i (.newMut s.sok.sub n) (fun b h => by cases h; exact n) ⟨p, [], rfl, upd_same, s.sok.sub.free n, Nat.zero_le _, .nil⟩)
theorem dg_put {k : Expr} {fk : En → Option PyData} (i : Nat) {x : Str} {px : Pos} (hu : X.A.units + 64 < cLine) (hk : DE X k fk) (hN : X.N[i]? = some x := by rfl) (hv : Vis X.env.scope x := by first | exact Or.inl rfl | exact Or.inr (Or.inl rfl) | exact Or.inr (Or.inr rfl)) (hd : (x == ("__debug__" : Str)) = false := by decide)
    (hcd : (x == ("__classdict__" : Str)) = false := by decide) (ha : ∀ v, assign (.Subscript (.Name x px) k pos) X.env v = (do
      let ov ← holding [v] (eval (.Name x px) X.env)
      let iv ← holding [v, ov] (eval k X.env)
      standAt pos
      holding [v, ov, iv] (setItem ov iv v)
      release [v, ov, iv] []) := by intro _; rfl) : DG X (.Subscript (.Name x px) k pos) (gPutM i fk) := by
  obtain ⟨t, p, q⟩ := hk
  refine ⟨_, pg_sub (pe_var hN hv hd hcd) p (set_dict (by omega)) ha, fun B1 B H1 H σ ρ ρ' v d Q s dv e k => ?_⟩
  obtain ⟨kk, ek, e⟩ := bind_some e
  unfold putM at e
  split at e
  · rename_i n kvs em
    obtain ⟨hlt, rfl⟩ := of_if e
    obtain ⟨A, ws, eσ, hA, nA, hl, dl⟩ := s.sok.md em
    refine ⟨_, eσ, ?_⟩
    refine q σ H1 H ρ _ _ s.sok ek fun w H1' H' x dw => ?_
    cases dw
    obtain ⟨nA', hA'⟩ := x.fr A _ hA nA
    have dl' := kvs_mono x.st dl
    have hz : ws.length < sizeLine := by rw [kvs_len dl, sizeLine_eq]; omega
    refine ⟨A, _, rfl, DPut.k (k := Sum.inl n) (v := v) hA' hz, ?_⟩
    refine k σ H1' _ x.st ((s.ext x).mutate em trivial eσ nA' (fun b h => by cases h; rfl) ⟨A, putK ws (Sum.inl n) v, rfl, upd_same, nA', ?_, kvs_put dl' (Den.mono x.st _ _ dv)⟩)
    have := putD_len kvs n d
    rw [sizeLine_eq]; omega
  · cases e
theorem de_getM (i : Nat) {x : Str} {px apos cpos : Pos} (hu : X.A.units + 64 < cLine) (ha : DE X a fa) (hb : DE X b fb) (hN : X.N[i]? = some x := by rfl) (hv : Vis X.env.scope x := by first | exact Or.inl rfl | exact Or.inr (Or.inl rfl) | exact Or.inr (Or.inr rfl)) (hd : (x == ("__debug__" : Str)) = false := by decide)
    (hcd : (x == ("__classdict__" : Str)) = false := by decide) (m : M2 X (.Name x px) "get" apos a b cpos := by exact ⟨rfl, rfl, rfl, rfl⟩) : DE X (.Call (.Attribute (.Name x px) "get" apos) [a, b] [] cpos) (eGetM i fa fb) := by
  obtain ⟨ta, pa, qa⟩ := ha
  obtain ⟨tb, pb, qb⟩ := hb
  refine ⟨_, pe_dget2 (by omega) (pe_var hN hv hd hcd) pa pb m, fun σ H1 H ρ d Q s h k => ?_⟩
  obtain ⟨k1, h1, h3⟩ := bind_some h
  clear h
  obtain ⟨d1, h2, h4⟩ := bind_some h3
  clear h3
  unfold getM at h4
  split at h4
  · rename_i n kvs em
    cases h4
    obtain ⟨A, ws, eσ, hA, nA, hl, dl⟩ := s.md em
    refine ⟨_, eσ, A, rfl, .inl ⟨ws, .inl hA⟩, ?_⟩
    refine qa σ H1 H ρ _ _ s h1 fun v H1' H' x dv => qb σ H1' H' ρ _ _ (s.ext x) h2 fun w H2 H2' x2 dw => ?_
    cases dv
    obtain ⟨nA', hA'⟩ := (x.trans x2).fr A _ hA nA
    refine ⟨_, DGet.k (k := Sum.inl n) hA', ?_⟩
    obtain ⟨l1, l2⟩ := kvs_look (k := n) (kvs_mono (x.trans x2).st dl)
    refine k _ _ _ (x.trans x2) ?_
    cases hl : lookK kvs n with
    | none => rw [l1 hl]; exact dw
    | some z =>
      obtain ⟨u, e1, e2⟩ := l2 z hl
      rw [e1]
      exact e2
  · cases h4
/-! the truths True, False by `is` -/
def isB (d e : PyData) : Option PyData := match d, e with
  | .bool a, .bool b => some (.bool (decide (a = b)))
  | _, _ => none
theorem v_isB {K : PySem.W.Frag} : V2 K rIsB isB := by
  intro x y d e c H1 H Q sm dx dy h k
  unfold isB at h
  split at h
  · cases h
    cases dx
    cases dy
    exact ⟨_, _, rfl, rfl, k _ H1 H (.refl sm) (.bl _)⟩
  · cases h
end
section
variable {prog : Program} {w : World} {A : Around} {E : Value → Shared → Prop} {s : Shared}
/-- sorted(t) of a tuple of tuples of ints (the library's steps for a list, turned to a tuple) -/
theorem sorted_tupsT {l : Addr} {vs : List Value} {d : Nat} {B : Int} {Q : Value → Shared → Prop} (hl : s.heap.IsTuple l vs.toArray) (h64 : vs.length < 64) (hd : 1 ≤ d) (x : TS.TupsOk s.heap d B vs)
    (h : ∀ out : Array Value, out.toList.Perm vs → out.toList.Pairwise (fun u v => TS.code B (TS.intsOf s.heap u) ≤ TS.code B (TS.intsOf s.heap v)) → Q (.ref (s.heap.objs.size + 1)) { s with heap := sortedAll s.heap vs out }) :
    wpAny (model prog w) A (call (.builtin "sorted") [.ref l]) Q E s := by
  refine Calls.call_function_entry kind_sorted plain_sorted entry_sorted (args_sorted1 _) ?_
  unfold Builtin.«sorted»
  refine wpAny_bind (m := checkCount "sorted" 1 1 _) (wpAny_pure ?_)
  refine wpAny_bind (collect_tup hl ?_ (by rw [sizeLine_eq]; omega))
  refine wpAny_bind (wpAny_newList ?_ (by rw [sizeLine_eq]; omega))
  have hsz : ((s.heap.push (seqObj "list" #[] 0)).update s.heap.objs.size (Obj.mapSeq (· ++ vs.toArray))).objs.size = s.heap.objs.size + 1 := by
    rw [Heap.size_update, size_push']
  have hoL : (((s.heap.push (seqObj "list" #[] 0)).update s.heap.objs.size (Obj.mapSeq (· ++ vs.toArray))).push (seqObj "list" vs.toArray 0)).get? (s.heap.objs.size + 1) = some (seqObj "list" vs.toArray 0) := by
    rw [← hsz]; exact Heap.get?_push_size _ rfl
  have keep : ∀ b o, s.heap.get? b = some o → o.cls = .type "tuple" → (((s.heap.push (seqObj "list" #[] 0)).update s.heap.objs.size (Obj.mapSeq (· ++ vs.toArray))).push (seqObj "list" vs.toArray 0)).get? b = some o := fun b o q _ => by
    have hlt : b < s.heap.objs.size := Heap.lt_size q
    rw [Heap.get?_push_ne _ _ _ (by rw [hsz]; exact Nat.ne_of_lt (Nat.lt_succ_of_lt hlt)), Heap.get?_update_ne _ _ _ _ (Nat.ne_of_lt hlt), Heap.get?_push_ne _ _ _ (Nat.ne_of_lt hlt)]
    exact q
  show wpAny _ _ _ _ _ { s with heap := ((s.heap.push (seqObj "list" #[] 0)).update s.heap.objs.size (Obj.mapSeq (· ++ vs.toArray))).push (seqObj "list" vs.toArray 0) }
  rw [hsz]
  refine wpAny_bind (wpAny_holding (wpAny_call_entry slot_list_sort ⟨_, hoL, rfl⟩ entry_list_sort (TS.sort_tups hoL h64 hd (x.keeps keep) (fun v => TS.code B (TS.intsOf s.heap v)) (fun v hv ns t => ?_) fun out a1 a2 => ⟨_, rfl, ?_⟩) (args_list_sort _)))
  · obtain ⟨ns0, t0, _⟩ := x v hv
    have e : ns = ns0 := t.ints.symm.trans (t0.keeps keep).ints
    rw [e]
    show TS.code B (TS.intsOf s.heap v) = TS.code B ns0
    rw [t0.ints]
  · exact wpAny_pure ⟨_, rfl, h out a1 a2⟩
end
section
variable {X : Cx} {a b c e : Expr} {es : List Expr} {fa fb fc f : En → Option PyData} {fs : En → Option (List PyData)} {pos p : Pos} {x : Str} {tg : Expr} {tf : En → Option Bool}
def rSortTT (K : PySem.W.Frag) : List V → Hp → VK → Prop := fun vs H Q => ∃ (a : Addr) (ks : List (Addr × List Int)) (d : Nat), vs = [V.ref a] ∧ SqT K H a (ks.map fun p => V.ref p.1) ∧ ks.length < 64 ∧ 1 ≤ d ∧ (∀ p ∈ ks, SqT K H p.1 (p.2.map V.int) ∧ p.2.length = d ∧ TS.Bd 64 p.2) ∧
  ∀ (L : List (Addr × List Int)) (p : Addr), L.Perm ks → L.Pairwise (fun x y => TS.code 64 x.2 ≤ TS.code 64 y.2) → H p = none → Q (.ref p) (upd H p (.lst (L.map fun q => V.ref q.1)))
theorem perm_map_inv' {α β : Type} {f : α → β} {ys zs : List β} (h : ys.Perm zs) : ∀ ks : List α, zs = ks.map f → ∃ L : List α, L.Perm ks ∧ ys = L.map f := by
  induction h with
  | nil =>
    intro ks e
    refine ⟨ks, List.Perm.refl _, e⟩
  | cons x _ ih =>
    intro ks e
    cases ks with
    | nil => simp at e
    | cons k ks =>
      simp only [List.map_cons, List.cons.injEq] at e
      obtain ⟨L, h1, h2⟩ := ih ks e.2
      exact ⟨k :: L, h1.cons k, by rw [List.map_cons, e.1, h2]⟩
  | swap x y l =>
    intro ks e
    match ks, e with
    | k1 :: k2 :: ks, e =>
      simp only [List.map_cons, List.cons.injEq] at e
      exact ⟨k2 :: k1 :: ks, List.Perm.swap k1 k2 ks, by rw [List.map_cons, List.map_cons, e.1, e.2.1, e.2.2]⟩
    | [k], e => simp at e
    | [], e => simp at e
  | trans _ _ ih1 ih2 =>
    intro ks e
    obtain ⟨L, h1, h2⟩ := ih2 ks e
    obtain ⟨L2, h3, h4⟩ := ih1 L h2
    exact ⟨L2, h3.trans h1, h4⟩
theorem cr_sortTT : CallR X (.builtin "sorted") (rSortTT X.K) := by
  intro pins s σ H vs us Q I r h
  obtain ⟨a, ks, d, rfl, hs, h64, hd, hk, q⟩ := h
  obtain ⟨its, rv, hl, hz⟩ := I.tuple hs
  rw [Vals.ref1 r]
  have eits := refs_of_vals rv
  refine sorted_tupsT (d := d) (B := 64) hl (by rw [eits, List.length_map]; exact h64) hd (fun v hv => ?_) fun out h1 h2 => ?_
  · rw [eits] at hv
    obtain ⟨p, hp, rfl⟩ := List.mem_map.mp hv
    exact ⟨p.2, tupI_raw I (hk p hp).1, (hk p hp).2.1, (hk p hp).2.2⟩
  · obtain ⟨ep, he'⟩ := PyProof.Rows.sortedAll_at s.heap its out
    obtain ⟨L, pmL, eL⟩ := perm_map_inv' h1 ks eits
    have hlen : (L.map fun q => V.ref q.1).length ≤ sizeLine := by
      rw [List.length_map, pmL.length_eq, sizeLine_eq]
      omega
    refine ⟨.ref _, upd H (s.heap.objs.size + 1) (.lst (L.map fun q => V.ref q.1)), I.laid (t' := s.toks) (fun _ _ => PyProof.Rows.sortedAll_old) (Nat.le_succ _) ⟨hlen, out.toList, ep, by rw [eL]; exact vals_of_refs L, he'⟩, rfl, q L _ pmL ?_ (I.hok.fresh (Nat.le_succ _))⟩
    rw [eL] at h2
    refine List.Pairwise.imp_of_mem (fun {u v} hu hv huv => ?_) (List.pairwise_map.mp h2)
    have i1 : TS.intsOf s.heap (.ref u.1) = u.2 := (tupI_raw I (hk u (pmL.mem_iff.mp hu)).1).ints
    have i2 : TS.intsOf s.heap (.ref v.1) = v.2 := (tupI_raw I (hk v (pmL.mem_iff.mp hv)).1).ints
    rw [i1, i2] at huv
    exact huv
def srtRT (rs : List (List Int)) : List (List Int) := rs.mergeSort lexLe
theorem srtRT_eq {rs X : List (List Int)} (h1 : X.Perm rs) (h3 : X.Pairwise (fun a b => lexLe a b = true)) : X = srtRT rs :=
  List.Perm.eq_of_pairwise (fun a b _ _ h1 h2 => lexLe_anti h1 h2) h3 (List.pairwise_mergeSort (le := lexLe) (fun _ _ _ h1 h2 => lexLe_trans h1 h2) lexLe_total _) (h1.trans (List.mergeSort_perm _ _).symm)
theorem srtRT_perm {rs qs : List (List Int)} (h : rs.Perm qs) : srtRT rs = srtRT qs :=
  srtRT_eq ((List.mergeSort_perm _ _).trans h) (List.pairwise_mergeSort (le := lexLe) (fun _ _ _ h1 h2 => lexLe_trans h1 h2) lexLe_total _)
def sortRowsT : PyData → Option (List PyData)
  | .tuple ds => (rowsD ds).bind fun rs => if okRows rs = true then some ((srtRT rs).map fun r => PyData.tuple (r.map PyData.int)) else none
  | _ => none
def eSortRowsT (f : En → Option PyData) : En → Option (List PyData) := fun ρ => (f ρ).bind sortRowsT
@[simp] theorem eSortRowsT_ap {ρ : En} : eSortRowsT f ρ = (f ρ).bind sortRowsT := rfl
theorem dl_sortRowsT (hg : Gl X "sorted") (hm : X.mg "sorted" = none) (he : DE X e f)
    (n2 : starEach (e :: []) X.env = (false, eval e X.env) :: starEach [] X.env := by rfl) : DL X (.Call (.Name "sorted" p) [e] [] pos) (eSortRowsT f) := by
  obtain ⟨t, pt, q⟩ := he
  refine ⟨_, pe_callB cr_sortTT hg hm (by decide +kernel) (pa_cons pt pa_nil n2) (he := n2) (hpl := by rfl), fun σ H1 H ρ cs Q s h k => ?_⟩
  obtain ⟨d1, h1, h⟩ := bind_some h
  cases d1 <;> try (cases h)
  rename_i ds
  obtain ⟨rs, h2, h⟩ := bind_some h
  obtain ⟨ok, rfl⟩ := of_if h
  obtain ⟨o1, d, o2, o3⟩ := okRows_ok ok
  refine q σ H1 H ρ _ _ s h1 fun v H1' H' x dv => ?_
  cases dv with
  | tup hs hl dl =>
    obtain ⟨ks, rfl, e2, e3⟩ := rowsD_den h2 dl
    subst e2
    have hks : ∀ p ∈ ks, p.2.length = d ∧ TS.Bd 64 p.2 := fun p hp => o3 p.2 (List.mem_map_of_mem hp)
    refine ⟨_, ks, d, rfl, sqT_mono x.sub hs, by rw [List.length_map] at o1; exact o1, o2, fun p hp => ⟨sqT_mono x.sub (e3 p hp).2, (hks p hp).1, (hks p hp).2⟩, fun L' P pmL pw nP => ?_⟩
    have hsub : ∀ p ∈ L', p ∈ ks := fun p hp => pmL.mem_iff.mp hp
    have er : L'.map (·.2) = srtRT (ks.map (·.2)) := by
      refine srtRT_eq (pmL.map _) ?_
      rw [List.pairwise_map]
      refine List.Pairwise.imp_of_mem (fun {u v} hu hv huv => ?_) pw
      obtain ⟨a1, a2⟩ := hks u (hsub u hu)
      obtain ⟨b1, b2⟩ := hks v (hsub v hv)
      exact code_lex (a1.trans b1.symm) a2 b2 huv
    rw [← er] at k
    have x3 : Ext H1' H' H1' (upd H' P (.lst (L'.map fun q => V.ref q.1))) := .newMut x.sub nP
    refine k P _ H1' _ (x.trans x3) ((Ext.same s.sub x).free nP) upd_same (x.sub.free nP) ?_ (den_rows fun p hp => (e3 p (hsub p hp)).1)
    rw [List.length_map, List.length_map, pmL.length_eq]
    rw [List.length_map] at o1
    rw [sizeLine_eq]; omega
end
end Dv

namespace Dv
open PySem PySem.Spec PyProof.Rows L2

/-! ### lists of lists that change -/
def sNewMM (i : Nat) (f : En → Option (List PyData)) : En → Option Out := fun ρ => match f ρ with
  | some [] => some (.nx (ρ.set i (some (.mm []))))
  | _ => none
def eLenMM (i : Nat) : En → Option PyData := fun ρ => match ρ[i]? with
  | some (some (.mm rows)) => some (.int rows.length)
  | _ => none
def sAppMM (i : Nat) (f : En → Option (List PyData)) : En → Option Out := fun ρ => (f ρ).bind fun ds => match ρ[i]? with
  | some (some (.mm rows)) => if rows.length < sizeLine then some (.nx (ρ.set i (some (.mm (rows ++ [ds]))))) else none
  | _ => none
def sAppAt (i : Nat) (fk f : En → Option PyData) : En → Option Out := fun ρ => (fk ρ).bind fun k => (f ρ).bind fun d => match k, ρ[i]? with
  | .int n, some (some (.mm rows)) => (ixN rows.length n).bind fun j => (rows[j]?).bind fun ds => if ds.length < sizeLine then some (.nx (ρ.set i (some (.mm (rows.set j (ds ++ [d])))))) else none
  | _, _ => none
section
variable {X : Cx} {a b c e : Expr} {es : List Expr} {fa fb fc f : En → Option PyData} {fs : En → Option (List PyData)} {pos p : Pos} {x : Str} {tg : Expr} {tf : En → Option Bool}
theorem Sok.mm {K : PySem.W.Frag} {H1 H : Hp} {σ : L2.St} {ρ : En} {i : Nat} {rows : List (List PyData)} (s : Sok K H1 H σ ρ) (e : ρ[i]? = some (some (.mm rows))) : ∃ (a : Addr) (ks : List Addr), σ[i]? = some (some (.ref a)) ∧ H a = some (.lst (ks.map V.ref)) ∧ H1 a = none ∧ rows.length ≤ sizeLine ∧ a ∉ ks ∧ ks.Nodup ∧ RowsOk K H1 H ks rows := by
  obtain ⟨v, e1, a, ks, rfl, h⟩ := s.at_ i _ e
  exact ⟨a, ks, e1, h⟩
theorem RowsOk.length {K : PySem.W.Frag} {H1 H : Hp} : ∀ {ks : List Addr} {rows : List (List PyData)}, RowsOk K H1 H ks rows → ks.length = rows.length
  | _, _, .nil => rfl
  | _, _, .cons _ t => by rw [List.length_cons, List.length_cons, RowsOk.length t]
theorem ds_newMM (i : Nat) {x : Str} {pos' : Pos} (hN : X.N.Nodup) (he : DL X e fs) (hi : X.N[i]? = some x := by rfl) (hx : Loc X.env.scope x := by first | exact Or.inl rfl | exact Or.inr rfl) (hs : swapsWith e (some (.Name x pos')) pos.line X.env = pure false := by rfl) (hf : X.fn x = true ∨ X.env.scope.names.lookup x = some .local := by first | exact .inl rfl | exact .inr rfl) :
    DS X (.Assign [.Name x pos'] e pos) (sNewMM i fs) := by
  obtain ⟨t, p, q⟩ := he
  refine ⟨_, ps_set hN hi hx p hs hf, fun B1 B H1 H σ ρ o D s e k => ?_⟩
  unfold sNewMM at e
  split at e
  · rename_i e1
    cases e
    refine q σ H1 H ρ [] _ s.sok e1 fun a vs H1' H' x n e' n' l dl => ?_
    cases dl
    exact k _ H1' H' x.st (s.setM i x (fun b h => by
      rcases h with h | ⟨a', ks, h, e2, hb⟩
      · cases h; exact n
      · cases h
        rw [e'] at e2
        cases ks with
        | nil => cases hb
        | cons k ks => simp at e2) ⟨a, [], rfl, e', n', l, by simp, List.nodup_nil, .nil⟩)
  · cases e
theorem de_lenMM (i : Nat) {x : Str} {px : Pos} (hg : Gl X "len") (hm : X.mg "len" = none) (hN : X.N[i]? = some x := by rfl) (hv : Vis X.env.scope x := by first | exact Or.inl rfl | exact Or.inr (Or.inl rfl) | exact Or.inr (Or.inr rfl)) (hd : (x == ("__debug__" : Str)) = false := by decide)
    (hcd : (x == ("__classdict__" : Str)) = false := by decide) (hst : starEach (.Name x px :: []) X.env = (false, eval (.Name x px) X.env) :: starEach [] X.env := by rfl) (hpl : (backTo pos (starEach [] X.env)).any (·.1) = false := by rfl) : DE X (.Call (.Name "len" p) [.Name x px] [] pos) (eLenMM i) := by
  refine ⟨_, pe_callB call_len_seq hg hm PySem.boot_len (pa_cons (pe_var hN hv hd hcd) pa_nil hst) (he := hst) (hpl := hpl), fun σ H1 H ρ d Q s h k => ?_⟩
  unfold eLenMM at h
  split at h
  · rename_i rows em
    cases h
    obtain ⟨A, ks, eσ, hA, nA, hl, h1, h2, h3⟩ := s.mm em
    refine ⟨_, eσ, A, ks.map V.ref, rfl, .inl (.of hA), ?_⟩
    rw [List.length_map, h3.length]
    exact k _ H1 H (.refl s.sub) (.int _)
  · cases h
theorem RowsOk.snoc {K : PySem.W.Frag} {H1 H : Hp} {k : Addr} {ds : List PyData} (h : ∃ vs, H k = some (.lst vs) ∧ H1 k = none ∧ ds.length ≤ sizeLine ∧ DenL K H1 vs ds) : ∀ {ks : List Addr} {rows : List (List PyData)}, RowsOk K H1 H ks rows → RowsOk K H1 H (ks ++ [k]) (rows ++ [ds])
  | _, _, .nil => .cons h .nil
  | _, _, .cons a t => .cons a (RowsOk.snoc h t)
theorem ds_appMM (i : Nat) {x : Str} {px apos cpos : Pos} (he : DL X e fs) (hN : X.N[i]? = some x := by rfl) (hv : Vis X.env.scope x := by first | exact Or.inl rfl | exact Or.inr (Or.inl rfl) | exact Or.inr (Or.inr rfl)) (hd : (x == ("__debug__" : Str)) = false := by decide)
    (hcd : (x == ("__classdict__" : Str)) = false := by decide) (hse : starEach (e :: []) X.env = (false, eval e X.env) :: starEach [] X.env := by rfl) (hs : swapsWith (.Call (.Attribute (.Name x px) "append" apos) [e] [] cpos) none pos.line X.env = pure false := by rfl) (pe : ∀ {te : TE}, PE X e te → PE X (.Call (.Attribute (.Name x px) "append" apos) [e] [] cpos) (tBM X.K "list" rAppend (tVar i) (tCons te tNil)) := by exact fun he => pe_bm PySem.F.plainAttrs_list PySem.F.slot_list_append PySem.F.type_list_append mt_append (pv _) (pa_cons he pa_nil)) :
    DS X (.Expr (.Call (.Attribute (.Name x px) "append" apos) [e] [] cpos) pos) (sAppMM i fs) := by
  obtain ⟨t, p, q⟩ := he
  refine ⟨_, ps_expr (pe p) hs, fun B1 B H1 H σ ρ o D s e k => ?_⟩
  obtain ⟨ds, e1, e⟩ := bind_some e
  split at e
  · rename_i rows em
    split at e
    · rename_i hlt
      cases e
      obtain ⟨A, ks, eσ, hA, nA, hl, h1, h2, h3⟩ := s.sok.mm em
      refine ⟨_, eσ, .inl ⟨rfl, _, .of hA⟩, ?_⟩
      refine q σ H1 H ρ _ _ s.sok e1 fun a vs H1' H' x n e' n' l dl => ?_
      obtain ⟨nA', hA'⟩ := x.fr A _ hA nA
      have hka : a ∉ ks := fun h => by
        obtain ⟨o, h4, _⟩ := h3.at_ a h
        rw [n] at h4
        cases h4
      have hAa : A ≠ a := ne_of_none hA n
      refine ⟨A, ks.map V.ref, .ref a, rfl, rfl, hA', by rw [List.length_map, h3.length]; exact hlt, ?_⟩
      have sx := s.ext x
      have em' : ks.map V.ref ++ [V.ref a] = (ks ++ [a]).map V.ref := by rw [List.map_append]; rfl
      rw [em']
      refine k σ H1' _ x.st (sx.change em eσ (.inl rfl) ⟨A, ks ++ [a], rfl, upd_same, nA', by rw [List.length_append]; exact hlt, ?_, ?_, ?_⟩ fun b ob => ?_)
      · intro h
        rcases List.mem_append.mp h with h | h
        · exact h1 h
        · exact hAa (List.mem_singleton.mp h)
      · refine List.nodup_append.mpr ⟨h2, (by simp), fun b hb c hc h => ?_⟩
        rw [List.mem_singleton] at hc
        subst hc
        subst h
        exact hka hb
      · refine RowsOk.upd (RowsOk.snoc ⟨vs, e', n', l, dl⟩ (h3.ext x)) fun b hb h => ?_
        subst h
        rcases List.mem_append.mp hb with h | h
        · exact h1 h
        · exact hAa (List.mem_singleton.mp h)
      · rcases ob with h | ⟨a', ks', h, e2, hb⟩
        · exact .inl (.inl h)
        · cases h
          rw [upd_same] at e2
          injection e2 with e2
          injection e2 with e2
          rw [← map_ref_inj e2] at hb
          rcases List.mem_append.mp hb with h | h
          · exact .inl (.inr ⟨A, ks, rfl, hA', h⟩)
          · rw [List.mem_singleton] at h
            subst h
            refine .inr ⟨s.same.free n, fun j u v' hj e3 f3 o3 => ?_⟩
            obtain ⟨v1, f1, q1⟩ := s.sok.at_ j u e3
            rw [f3] at f1
            cases f1
            have sm := x.same s.sok.sub
            obtain ⟨o', h4, _⟩ := (o3.back q1 fun a o _ h => sm _ _ h).at_ q1
            rw [n] at h4
            cases h4
    · cases e
  · cases e
theorem RowsOk.get {K : PySem.W.Frag} {H1 H : Hp} : ∀ {ks : List Addr} {rows : List (List PyData)}, RowsOk K H1 H ks rows → ∀ {j : Nat} {ds : List PyData}, rows[j]? = some ds → ∃ k vs, ks[j]? = some k ∧ H k = some (.lst vs) ∧ H1 k = none ∧ ds.length ≤ sizeLine ∧ DenL K H1 vs ds
  | _, _, .cons (a := k) ⟨vs, h⟩ _, 0, _, e => by cases e; exact ⟨_, vs, rfl, h⟩
  | _, _, .cons _ t, j + 1, _, e => RowsOk.get t (j := j) e
theorem RowsOk.put {K : PySem.W.Frag} {H1 H : Hp} {k : Addr} {o : HO} {ds : List PyData} (h : ∃ vs, (L2.upd H k o) k = some (.lst vs) ∧ H1 k = none ∧ ds.length ≤ sizeLine ∧ DenL K H1 vs ds) : ∀ {ks : List Addr} {rows : List (List PyData)}, RowsOk K H1 H ks rows → ks.Nodup → ∀ {j : Nat}, ks[j]? = some k → RowsOk K H1 (L2.upd H k o) ks (rows.set j ds)
  | _, _, .cons a t, d, 0, e => by
    cases e
    exact .cons h (RowsOk.upd t fun b hb hbk => (List.nodup_cons.mp d).1 (hbk ▸ hb))
  | _, _, .cons ⟨vs, h1, h2⟩ t, d, j + 1, e => by
    refine .cons ⟨vs, ?_, h2⟩ (RowsOk.put h t (List.nodup_cons.mp d).2 e)
    rw [List.getElem?_cons_succ] at e
    have hk := List.mem_of_getElem? e
    rw [upd_ne fun h5 => (List.nodup_cons.mp d).1 (by rw [h5]; exact hk)]
    exact h1
theorem ds_appAt (i : Nat) {k : Expr} {fk : En → Option PyData} {x : Str} {px kpos apos cpos : Pos} (hk : DE X k fk) (he : DE X e f) (hN : X.N[i]? = some x := by rfl) (hv : Vis X.env.scope x := by first | exact Or.inl rfl | exact Or.inr (Or.inl rfl) | exact Or.inr (Or.inr rfl)) (hd : (x == ("__debug__" : Str)) = false := by decide)
    (hcd : (x == ("__classdict__" : Str)) = false := by decide) (hps : PlainIx k := by exact fun _ _ => rfl) (hse : starEach (e :: []) X.env = (false, eval e X.env) :: starEach [] X.env := by rfl) (hs : swapsWith (.Call (.Attribute (.Subscript (.Name x px) k kpos) "append" apos) [e] [] cpos) none pos.line X.env = pure false := by rfl) (pe : ∀ {to te : TE}, PE X (.Subscript (.Name x px) k kpos) to → PE X e te → PE X (.Call (.Attribute (.Subscript (.Name x px) k kpos) "append" apos) [e] [] cpos) (tBM X.K "list" rAppend to (tCons te tNil)) := by exact fun ho he => pe_bm PySem.F.plainAttrs_list PySem.F.slot_list_append PySem.F.type_list_append mt_append ho (pa_cons he pa_nil)) :
    DS X (.Expr (.Call (.Attribute (.Subscript (.Name x px) k kpos) "append" apos) [e] [] cpos) pos) (sAppAt i fk f) := by
  obtain ⟨tk, pk, qk⟩ := hk
  obtain ⟨t, p, q⟩ := he
  refine ⟨_, ps_expr (pe (pe_ix ix_list (pe_var hN hv hd hcd) pk hps) p) hs, fun B1 B H1 H σ ρ o D s e kk => ?_⟩
  obtain ⟨kd, e0, e⟩ := bind_some e
  obtain ⟨d, e1, e⟩ := bind_some e
  split at e
  · rename_i n rows em _
    obtain ⟨j, ej, e⟩ := bind_some e
    obtain ⟨ds, er, e⟩ := bind_some e
    split at e
    · rename_i hlt
      cases e
      obtain ⟨A, ks, eσ, hA, nA, hl, h1, h2, h3⟩ := s.sok.mm em
      refine ⟨_, eσ, qk σ H1 H ρ _ _ s.sok e0 fun w H1' H' x dw => ?_⟩
      cases dw
      obtain ⟨nA', hA'⟩ := x.fr A _ hA nA
      obtain ⟨r, vs, ekj, hr, hr1, hr2, hr3⟩ := (h3.ext x).get er
      have at1 : atI (ks.map V.ref) n = some (.ref r) := by
        unfold atI
        rw [List.length_map, h3.length, ej, Option.bind_some, List.getElem?_map, ekj]
        rfl
      refine ⟨A, ks.map V.ref, n, .ref r, rfl, rfl, .of hA', at1, .inl ⟨rfl, _, .of hr⟩, ?_⟩
      have sx := s.ext x
      refine q σ H1' H' ρ _ _ sx.sok e1 fun v H2 H2' x2 dv => ?_
      obtain ⟨nA2, hA2⟩ := x2.fr A _ hA' nA'
      obtain ⟨nr2, hr2'⟩ := x2.fr r _ hr hr1
      have hrk : r ∈ ks := List.mem_of_getElem? ekj
      have hAr : A ≠ r := fun h => h1 (h ▸ hrk)
      refine ⟨r, vs, v, rfl, rfl, hr2', by rw [hr3.length]; exact hlt, ?_⟩
      have e5 : upd H2' r (.lst (vs ++ [v])) A = some (.lst (ks.map V.ref)) := by rw [upd_ne hAr]; exact hA2
      refine kk σ H2 _ (x.st.trans x2.st) ((sx.ext x2).change em eσ (.inr ⟨A, ks, rfl, hA2, hrk⟩) ⟨A, ks, rfl, e5, nA2, by rw [List.length_set]; exact hl, h1, h2, ?_⟩ fun b ob => ?_)
      · exact RowsOk.put ⟨_, upd_same, nr2, by rw [List.length_append]; exact hlt, (DenL.mono x2.st _ _ hr3).append (.one dv)⟩ ((h3.ext x).ext x2) h2 ekj
      · rcases ob with h | ⟨a', ks', h, e2, hb⟩
        · exact .inl (.inl h)
        · cases h
          rw [e5] at e2
          injection e2 with e2
          injection e2 with e2
          exact .inl (.inr ⟨A, ks, rfl, hA2, by rw [map_ref_inj e2]; exact hb⟩)
    · cases e
  · cases e
mutual
def noL : PyData → Bool
  | .list _ => false
  | .dict _ => false
  | .tuple ds => noLs ds
  | _ => true
def noLs : List PyData → Bool
  | [] => true
  | d :: ds => noL d && noLs ds
end
/-- without the things at S -/
def cutH (H1 : Hp) (S : List Addr) : Hp := fun b => if b ∈ S then none else H1 b
section
variable {K : PySem.W.Frag} {H1 : Hp} {S : List Addr}
theorem sqT_cut (hS : ∀ a ∈ S, ∃ xs, H1 a = some (.lst xs)) {a : Addr} {xs : List V} (h : SqT K H1 a xs) : SqT K (cutH H1 S) a xs := by
  have e : ∀ o, (∀ ys, o ≠ HO.lst ys) → H1 a = some o → cutH H1 S a = some o := fun o ho h => by
    unfold cutH
    split
    · rename_i hm
      obtain ⟨ys, hy⟩ := hS a hm
      rw [hy] at h
      cases h
      exact (ho ys rfl).elim
    · exact h
  rcases h with (h | ⟨o, h⟩) | h
  · exact .inl (.inl (e _ (fun ys => nofun) h))
  · exact .inl (.inr ⟨o, e _ (fun ys => nofun) h⟩)
  · exact .inr h
mutual
theorem Den.cutH (hS : ∀ a ∈ S, ∃ xs, H1 a = some (.lst xs)) : ∀ (d : PyData) (v : V), noL d = true → Den K H1 v d → Den K (cutH H1 S) v d
  | .none, _, _, h => by cases h; exact .non
  | .bool b, _, _, h => by cases h; exact .bl b
  | .int i, _, _, h => by cases h; exact .int i
  | .str x, _, _, h => by cases h; exact .str x
  | .list ds, _, n, h => by simp [noL] at n
  | .tuple ds, _, n, h => by cases h with | tup a b c => exact .tup (sqT_cut hS a) b (DenL.cutH hS ds _ (by simpa [noL] using n) c)
  | .dict _, _, n, h => by simp [noL] at n
theorem DenL.cutH (hS : ∀ a ∈ S, ∃ xs, H1 a = some (.lst xs)) : ∀ (ds : List PyData) (vs : List V), noLs ds = true → DenL K H1 vs ds → DenL K (cutH H1 S) vs ds
  | [], _, _, h => by cases h; exact .nil
  | d :: ds, _, n, h => by
    rw [noLs, Bool.and_eq_true] at n
    cases h with | cons a b => exact .cons (Den.cutH hS d _ n.1 a) (DenL.cutH hS ds _ n.2 b)
end
end
end
/-- the slot's lists as plain data -/
def frzMM (i : Nat) (ρ : En) : En := match ρ[i]? with
  | some (some (.mm rows)) => ρ.set i (some (.im (.list (rows.map PyData.list))))
  | _ => ρ
def addH (H1 H : Hp) (S : List Addr) : Hp := fun b => if b ∈ S then H b else H1 b
theorem ext_cut {H1 H H1' H' : Hp} {S : List Addr} (s : Same H1 H) (hS : ∀ b ∈ S, H1 b = none) (x : Ext (addH H1 H S) H H1' H') : Ext H1 H (cutH H1' S) H' := by
  refine ⟨fun b o e => ?_, fun b o e => ?_, fun b o e n => ?_⟩
  · have hb : b ∉ S := fun h => by rw [hS b h] at e; cases e
    unfold cutH
    rw [if_neg hb]
    exact x.st b o (by unfold addH; rw [if_neg hb]; exact e)
  · unfold cutH at e
    split at e
    · cases e
    · exact x.sub b o e
  · by_cases hb : b ∈ S
    · refine ⟨by unfold cutH; rw [if_pos hb], ?_⟩
      exact x.sub _ _ (x.st b o (by unfold addH; rw [if_pos hb]; exact e))
    · obtain ⟨n', e'⟩ := x.fr b o e (by unfold addH; rw [if_neg hb]; exact n)
      exact ⟨by unfold cutH; rw [if_neg hb]; exact n', e'⟩
theorem addH_same {H1 H : Hp} {S : List Addr} (hS : ∀ b ∈ S, H1 b = none) : Same H1 (addH H1 H S) := fun b o e => by
  have hb : b ∉ S := fun h => by rw [hS b h] at e; cases e
  unfold addH
  rw [if_neg hb]
  exact e
theorem addH_sub {H1 H : Hp} {S : List Addr} (s : Same H1 H) : Same (addH H1 H S) H := fun b o e => by
  unfold addH at e
  split at e
  · exact e
  · exact s b o e
theorem RowsOk.stab {K : PySem.W.Frag} {H1 H : Hp} {S : List Addr} (sm : Same H1 (addH H1 H S)) : ∀ {ks : List Addr} {rows : List (List PyData)}, RowsOk K H1 H ks rows → (∀ k ∈ ks, k ∈ S) → DenL K (addH H1 H S) (ks.map V.ref) (rows.map PyData.list)
  | _, _, .nil, _ => .nil
  | _, _, .cons ⟨vs, h1, h2, h3, h4⟩ t, h => .cons (.lst (.of (by unfold addH; rw [if_pos (h _ (List.mem_cons_self ..))]; exact h1)) h3 (DenL.mono sm _ _ h4)) (RowsOk.stab sm t fun k hk => h k (List.mem_cons_of_mem _ hk))
theorem RowsOk.lsts {K : PySem.W.Frag} {H1 H : Hp} : ∀ {ks : List Addr} {rows : List (List PyData)}, RowsOk K H1 H ks rows → ∀ b ∈ ks, (∃ xs, H b = some (.lst xs)) ∧ H1 b = none
  | _, _, .nil, _, h => by cases h
  | _, _, .cons ⟨vs, h1, h2, _⟩ t, b, h => by
    rcases List.mem_cons.mp h with rfl | h
    · exact ⟨⟨vs, h1⟩, h2⟩
    · exact RowsOk.lsts t b h
theorem WOk.stab {K : PySem.W.Frag} {H1 H : Hp} {S : List Addr} {v : V} {u : W} (sm : Same H1 (addH H1 H S)) (q : WOk K H1 H v u) (h : ∀ b, Owned H v b u → b ∉ S) : WOk K (addH H1 H S) H v u := by
  have nn : ∀ b, b ∉ S → H1 b = none → addH H1 H S b = none := fun b hb n => by unfold addH; rw [if_neg hb]; exact n
  cases u with
  | im d => exact Den.mono sm _ _ q
  | xo a c => exact q
  | fo C fs =>
    obtain ⟨b, dx, fsV, e0, z1, z2, z3, z4⟩ := q
    exact ⟨b, dx, fsV, e0, sm _ _ z1, sm _ _ z2, z3, z4.mono sm⟩
  | so C b dx fs =>
    obtain ⟨e0, fsV, z1, z2, z3, z4, z5, z6⟩ := q
    exact ⟨e0, fsV, z1, z2, nn _ (h _ ⟨e0, .inl rfl⟩) z3, nn _ (h _ ⟨e0, .inr rfl⟩) z4, z5, z6.mono sm⟩
  | ob C fs =>
    obtain ⟨b, dx, e0, fsV, z1, z2, z3, z4, z5, z6⟩ := q
    exact ⟨b, dx, e0, fsV, z1, z2, nn _ (h _ (.inl e0)) z3, nn _ (h _ (.inr ⟨b, dx, fsV, e0, z1, rfl⟩)) z4, z5, z6.mono sm⟩
  | ml ds =>
    obtain ⟨b, vs, rfl, z1, z2, z3, z4⟩ := q
    exact ⟨b, vs, rfl, z1, nn _ (h b rfl) z2, z3, DenL.mono sm _ _ z4⟩
  | md ds =>
    obtain ⟨b, vs, rfl, z1, z2, z3, z4⟩ := q
    exact ⟨b, vs, rfl, z1, nn _ (h b rfl) z2, z3, Paired.mapP z4 fun p z ⟨e1, e2⟩ => ⟨e1, Den.mono sm _ _ e2⟩⟩
  | mm rows =>
    obtain ⟨b, ks, rfl, z1, z2, z3, z4, z5, z6⟩ := q
    refine ⟨b, ks, rfl, z1, nn _ (h b (.inl rfl)) z2, z3, z4, z5, ?_⟩
    have hk : ∀ c ∈ ks, c ∉ S := fun c hc => h c (.inr ⟨b, ks, rfl, z1, hc⟩)
    clear z1 z3 z4 z5 h
    induction z6 with
    | nil => exact .nil
    | cons a t ih =>
      obtain ⟨vs, h1, h2, h3, h4⟩ := a
      exact .cons ⟨vs, h1, nn _ (hk _ (List.mem_cons_self ..)) h2, h3, DenL.mono sm _ _ h4⟩ (ih fun c hc => hk c (List.mem_cons_of_mem _ hc))
theorem Sok.frzMM {K : PySem.W.Frag} {H1 H : Hp} {σ : L2.St} {ρ : En} {i : Nat} {rows : List (List PyData)} (s : Sok K H1 H σ ρ) (e : ρ[i]? = some (some (.mm rows))) :
    ∃ S, (∀ b ∈ S, H1 b = none) ∧ (∀ b ∈ S, ∃ xs, H b = some (.lst xs)) ∧ Sok K (addH H1 H S) H σ (frzMM i ρ) ∧ ∀ (A : Addr) (ks : List Addr), σ[i]? = some (some (.ref A)) → H A = some (.lst (ks.map V.ref)) → A ∈ S ∧ ∀ k ∈ ks, k ∈ S := by
  have hl : i < ρ.length := (List.getElem?_eq_some_iff.mp e).1
  obtain ⟨A, ks, eσ, hA, nA, hr, h1, h2, h3⟩ := s.mm e
  have hn : ∀ b ∈ A :: ks, H1 b = none := fun b hb => by
    rcases List.mem_cons.mp hb with rfl | hb
    · exact nA
    · exact (h3.lsts b hb).2
  have sm := addH_same (H := H) hn
  have ow : ∀ b ∈ A :: ks, Owned H (.ref A) b (.mm rows) := fun b hb => by
    rcases List.mem_cons.mp hb with rfl | hb
    · exact .inl rfl
    · exact .inr ⟨A, ks, rfl, hA, hb⟩
  have fr : Dv.frzMM i ρ = ρ.set i (some (.im (.list (rows.map PyData.list)))) := by unfold Dv.frzMM; rw [e]
  have cs : ∀ {j : Nat} {u}, (ρ.set i (some (.im (.list (rows.map PyData.list)))))[j]? = some (some u) → (i = j ∧ u = .im (.list (rows.map PyData.list))) ∨ (i ≠ j ∧ ρ[j]? = some (some u)) := fun {j u} e => by
    by_cases hj : i = j
    · subst hj
      rw [List.getElem?_set_self hl] at e
      cases e
      exact .inl ⟨rfl, rfl⟩
    · rw [List.getElem?_set_ne hj] at e
      exact .inr ⟨hj, e⟩
  refine ⟨A :: ks, hn, fun b hb => ?_, ?_⟩
  · rcases List.mem_cons.mp hb with rfl | hb
    · exact ⟨_, hA⟩
    · exact (h3.lsts b hb).1
  · rw [fr]
    refine ⟨⟨addH_sub s.sub, by rw [List.length_set]; exact s.len, fun j u e2 => ?_, fun j l u u' v1 v2 b e1 e2 f1 f2 o1 o2 => ?_⟩, fun A' ks' e1 e2 => ?_⟩
    · rcases cs e2 with ⟨rfl, rfl⟩ | ⟨hj, e2⟩
      · refine ⟨_, eσ, .lst (.of ?_) (by rw [List.length_map]; exact hr) (h3.stab sm fun k hk => List.mem_cons_of_mem _ hk)⟩
        unfold addH
        rw [if_pos (List.mem_cons_self ..)]
        exact hA
      · obtain ⟨v, f, q⟩ := s.at_ j u e2
        exact ⟨v, f, q.stab sm fun b ob hb => hj (s.inj i j _ u _ v b e e2 eσ f (ow b hb) ob)⟩
    · rcases cs e1 with ⟨rfl, rfl⟩ | ⟨hj, e1⟩
      · exact o1.elim
      · rcases cs e2 with ⟨rfl, rfl⟩ | ⟨hk, e2⟩
        · exact o2.elim
        · exact s.inj j l u u' v1 v2 b e1 e2 f1 f2 o1 o2
    · rw [eσ] at e1
      cases e1
      rw [hA] at e2
      injection e2 with e2
      injection e2 with e2
      rw [← map_ref_inj e2]
      exact ⟨List.mem_cons_self .., fun k hk => List.mem_cons_of_mem _ hk⟩
/-- an expression that reads the slot's lists, and is worth data without lists -/
def eFz (i : Nat) (f : En → Option PyData) : En → Option PyData := fun ρ => match ρ[i]? with
  | some (some (.mm _)) => (f (frzMM i ρ)).bind fun d => if noL d = true then some d else none
  | _ => none
theorem de_fz (i : Nat) {X : Cx} {e : Expr} {f : En → Option PyData} (he : DE X e f) : DE X e (eFz i f) := by
  obtain ⟨t, p, q⟩ := he
  refine ⟨t, p, fun σ H1 H ρ d Q s h k => ?_⟩
  unfold eFz at h
  split at h
  · rename_i rows em
    obtain ⟨d', h1, h2⟩ := bind_some h
    split at h2
    · rename_i hn
      cases h2
      obtain ⟨S, s1, s2, s3, _⟩ := s.frzMM em
      refine q σ _ H _ _ _ s3 h1 fun v H1' H' x dv => ?_
      refine k v _ H' (ext_cut s.sub s1 x) (Den.cutH (fun a ha => ?_) d v hn dv)
      obtain ⟨xs, hx⟩ := s2 a ha
      exact ⟨xs, x.st a _ (by unfold addH; rw [if_pos ha]; exact hx)⟩
    · cases h2
  · cases h
end Dv

namespace Dv
open PySem PySem.Spec PyProof.Rows L2

/-! ### statements that leave a slot as it is -/
def EndsF (K : PySem.W.Frag) (B1 B H1 : Hp) (D : Ends) (i : Nat) (v : V) : Out → Prop
  | .nx ρ => ∀ σ H1' H', Same H1 H1' → Sst K B1 B H1' H' σ ρ → σ[i]? = some (some v) → D.nx σ H'
  | .rt d => ∀ u H1' H', Ext B1 B H1' H' → Den K H1' u d → D.rt u H'
  | .bk ρ => ∀ σ H1' H', Same H1 H1' → Sst K B1 B H1' H' σ ρ → σ[i]? = some (some v) → D.bk σ H'
  | .ct ρ => ∀ σ H1' H', Same H1 H1' → Sst K B1 B H1' H' σ ρ → σ[i]? = some (some v) → D.ct σ H'
theorem EndsF.mono {K : PySem.W.Frag} {B1 B H1 H1' : Hp} {D : Ends} {i : Nat} {v : V} {o : Out} (h : EndsF K B1 B H1 D i v o) (s : Same H1 H1') : EndsF K B1 B H1' D i v o := by
  cases o with
  | nx ρ => exact fun σ H2 H' s' => h σ H2 H' (s.trans s')
  | rt d => exact h
  | bk ρ => exact fun σ H2 H' s' => h σ H2 H' (s.trans s')
  | ct ρ => exact fun σ H2 H' s' => h σ H2 H' (s.trans s')
def FS (i : Nat) (X : Cx) (st : Stmt) (f : En → Option Out) : Prop :=
  ∃ t, PS X st t ∧ ∀ (v : V) (B1 B H1 H : Hp) (σ : L2.St) (ρ : En) (o : Out) (D : Ends), Sst X.K B1 B H1 H σ ρ → σ[i]? = some (some v) → f ρ = some o → EndsF X.K B1 B H1 D i v o → t D σ H
def FSs (i : Nat) (X : Cx) (sts : List Stmt) (f : En → Option Out) : Prop :=
  ∃ t, PSs X sts t ∧ ∀ (v : V) (B1 B H1 H : Hp) (σ : L2.St) (ρ : En) (o : Out) (D : Ends), Sst X.K B1 B H1 H σ ρ → σ[i]? = some (some v) → f ρ = some o → EndsF X.K B1 B H1 D i v o → t D σ H
def FG (i : Nat) (X : Cx) (tg : Expr) (g : PyData → En → Option En) : Prop :=
  ∃ t, PG X tg t ∧ ∀ (u : V) (B1 B H1 H : Hp) (σ : L2.St) (ρ ρ' : En) (v : V) (d : PyData) (Q : L2.St → Hp → Prop), Sst X.K B1 B H1 H σ ρ → σ[i]? = some (some u) → Den X.K H1 v d → g d ρ = some ρ' → (∀ σ' H1' H', Same H1 H1' → Sst X.K B1 B H1' H' σ' ρ' → σ'[i]? = some (some u) → Q σ' H') → t v σ H Q
def FGs (i : Nat) (X : Cx) (tgs : List Expr) (g : List PyData → En → Option En) : Prop :=
  ∃ t, PGs X tgs t ∧ ∀ (u : V) (B1 B H1 H : Hp) (σ : L2.St) (ρ ρ' : En) (vs : List V) (ds : List PyData) (Q : L2.St → Hp → Prop), Sst X.K B1 B H1 H σ ρ → σ[i]? = some (some u) → DenL X.K H1 vs ds → g ds ρ = some ρ' → (∀ σ' H1' H', Same H1 H1' → Sst X.K B1 B H1' H' σ' ρ' → σ'[i]? = some (some u) → Q σ' H') → t vs σ H Q
section
variable {n : Nat} {X : Cx} {a b c e : Expr} {es : List Expr} {fa fb fc f : En → Option PyData} {fs : En → Option (List PyData)} {pos p : Pos} {x : Str} {st : Stmt} {sts : List Stmt} {g h : En → Option Out} {tg : Expr} {tf : En → Option Bool}
theorem fss_nil : FSs n X [] sNil := ⟨_, pss_nil, fun v B1 B H1 H σ ρ o D s f h k => by cases h; exact k σ H1 H (.refl _) s f⟩
theorem fss_one (h1 : FS n X st g) : FSs n X [st] g := by
  obtain ⟨t, p, q⟩ := h1
  exact ⟨_, pss_one p, q⟩
theorem fss_cons (h1 : FS n X st g) (h2 : FSs n X sts h) : FSs n X (st :: sts) (sSeq g h) := by
  obtain ⟨t, p, q⟩ := h1
  obtain ⟨u, p', q'⟩ := h2
  refine ⟨_, pss_cons p p', fun v B1 B H1 H σ ρ o D s f e k => ?_⟩
  obtain ⟨o1, e1, e⟩ := bind_some e
  refine q v B1 B H1 H σ ρ o1 { D with nx := u D } s f e1 ?_
  cases o1 with
  | nx ρ' => exact fun σ' H1' H' sm s' f' => q' v B1 B H1' H' σ' ρ' o D s' f' e (k.mono sm)
  | rt d => cases e; exact k
  | bk ρ' => cases e; exact k
  | ct ρ' => cases e; exact k
theorem fs_if {ss us : List Stmt} (hc : DT X c tf) (ha : FSs n X ss g) (hb : FSs n X us h) : FS n X (.If c ss us pos) (sIf tf g h) := by
  obtain ⟨t, p, q⟩ := hc
  obtain ⟨ta, pa, qa⟩ := ha
  obtain ⟨tb, pb, qb⟩ := hb
  refine ⟨_, ps_if p pa pb, fun v B1 B H1 H σ ρ o D s f e k => ?_⟩
  obtain ⟨c, e1, e⟩ := bind_some e
  refine q σ H1 H ρ c _ s.sok e1 fun H1' H' x => ?_
  cases c with
  | true => exact qa v B1 B H1' H' σ ρ o D (s.ext x) f e (k.mono x.st)
  | false => exact qb v B1 B H1' H' σ ρ o D (s.ext x) f e (k.mono x.st)
theorem fs_set (i : Nat) {x : Str} {pos' : Pos} (hN : X.N.Nodup) (he : DE X e f) (hn : i ≠ n := by decide) (hi : X.N[i]? = some x := by rfl) (hx : Loc X.env.scope x := by first | exact Or.inl rfl | exact Or.inr rfl) (hs : swapsWith e (some (.Name x pos')) pos.line X.env = pure false := by rfl) (hf : X.fn x = true ∨ X.env.scope.names.lookup x = some .local := by first | exact .inl rfl | exact .inr rfl) :
    FS n X (.Assign [.Name x pos'] e pos) (sAsg f (gN i)) := by
  obtain ⟨t, p, q⟩ := he
  refine ⟨_, ps_set hN hi hx p hs hf, fun u B1 B H1 H σ ρ o D s w e k => ?_⟩
  obtain ⟨d, e1, e⟩ := bind_some e
  cases e
  exact q σ H1 H ρ d _ s.sok e1 fun v H1' H' x dv => k _ H1' H' x.st ((s.ext x).set i dv) (by rw [List.getElem?_set_ne hn]; exact w)
theorem fg_name (i : Nat) {x : Str} (hN : X.N.Nodup) (hn : i ≠ n := by decide) (hi : X.N[i]? = some x := by rfl) (hx : Loc X.env.scope x := by first | exact Or.inl rfl | exact Or.inr rfl) (hf : X.fn x = true ∨ X.env.scope.names.lookup x = some .local := by first | exact .inl rfl | exact .inr rfl) : FG n X (.Name x pos) (gN i) :=
  ⟨_, pg_name hN hi hx hf, fun u B1 B H1 H σ ρ ρ' v d Q s w dv e k => by cases e; exact k _ H1 H (.refl _) (s.set i dv) (by rw [List.getElem?_set_ne hn]; exact w)⟩
theorem fgs_nil : FGs n X [] gNilD := by
  refine ⟨_, pgs_nil, fun u B1 B H1 H σ ρ ρ' vs ds Q s w dv e k => ?_⟩
  cases dv with
  | nil => cases e; exact ⟨rfl, k σ H1 H (.refl _) s w⟩
  | cons _ _ => cases e
theorem fgs_cons {gd : PyData → En → Option En} {gr : List PyData → En → Option En} (h1 : FG n X e gd) (h2 : FGs n X es gr) (hs : (assignEach (e :: es) X.env).map (·.2) = assign e X.env :: (assignEach es X.env).map (·.2) := by rfl) : FGs n X (e :: es) (gConsD gd gr) := by
  obtain ⟨t, p, q⟩ := h1
  obtain ⟨u, p', q'⟩ := h2
  refine ⟨_, pgs_cons p p' hs, fun z B1 B H1 H σ ρ ρ' vs ds Q s w dv e k => ?_⟩
  cases dv with
  | nil => cases e
  | cons d1 d2 =>
    obtain ⟨ρ1, e1, e⟩ := bind_some e
    refine ⟨_, _, rfl, q z B1 B H1 H σ ρ ρ1 _ _ _ s w d1 e1 fun σ1 H1' H' sm s1 w1 => ?_⟩
    exact q' z B1 B H1' H' σ1 ρ1 ρ' _ _ Q s1 w1 (DenL.mono sm _ _ d2) e fun σ2 H2' H2 sm2 s2 => k σ2 H2' H2 (sm.trans sm2) s2
theorem fg_tup {k : Nat} {m : Nat} {gr : List PyData → En → Option En} (hc : X.calm = true) (h : FGs n X es gr) (hn : (assignEach es X.env).length = m := by rfl) (hst : (assignEach es X.env).findIdx? (·.1) = none := by rfl) : FG n X (.Tuple es k pos) (gT m gr) := by
  obtain ⟨t, p, q⟩ := h
  refine ⟨_, pg_tup hc p hn hst, fun u B1 B H1 H σ ρ ρ' v d Q s w dv e k => ?_⟩
  cases d with
  | tuple ds =>
    cases dv with
    | tup hq hl dl =>
      have e : (if ds.length = m then gr ds ρ else none) = some ρ' := e
      split at e
      · rename_i hln
        exact ⟨_, _, rfl, sqT_mono s.sok.sub hq, by rw [dl.length]; exact hln, q u B1 B H1 H σ ρ ρ' _ ds Q s w dl e k⟩
      · cases e
  | _ => cases e
theorem fs_for {iter : Expr} {body : List Stmt} {fi : En → Option (List PyData)} {gd : PyData → En → Option En} (hp : PassesOwn (model X.prog X.w) X.A X.env X.xe) (hc : X.calm = true) (hi : DI X tg iter fi) (hg : FG n X tg gd) (hb : FSs n X body g)
    (hs : ∀ x, foldedSetIterable iter X.env x = pure x := by intro _; rfl) : FS n X (.For tg iter body [] pos) (sFor fi gd g) := by
  obtain ⟨wi, pi, qi⟩ := hi
  obtain ⟨tg', pg, qg⟩ := hg
  obtain ⟨tb, pb, qb⟩ := hb
  refine ⟨_, ps_for hp hc pi pg pb hs, fun u B1 B H1 H σ ρ o D s w e k => ?_⟩
  obtain ⟨ds, e1, e⟩ := bind_some e
  refine qi σ H1 H ρ ds _ s.sok e1 fun J Hi H' x hl wk => ?_
  refine ⟨fun i m σ H => m = ds.length - i ∧ ∃ H1' ρ', Same Hi H1' ∧ Sst X.K B1 B H1' H σ ρ' ∧ σ[n]? = some (some u) ∧ forD gd g (ds.drop i) ρ' = some o, ⟨_, rfl, Hi, ρ, .refl _, s.ext x, w, by rw [List.drop_zero]; exact e⟩, ?_⟩
  rintro i m σ H ⟨rfl, H1', ρ', sm, s', w', e'⟩
  obtain ⟨w1, w2⟩ := wk H1' H sm s'.sok.sub i
  by_cases hi : i < ds.length
  · right
    rw [List.drop_eq_getElem_cons hi] at e'
    obtain ⟨go, yl⟩ := w1 ds[i] (List.getElem?_eq_getElem hi)
    obtain ⟨ρ1, e2, e'⟩ := bind_some e'
    obtain ⟨o1, e3, e'⟩ := bind_some e'
    refine ⟨go, fun σ2 H2 => ∃ H1'' ρ'', Same Hi H1'' ∧ Sst X.K B1 B H1'' H2 σ2 ρ'' ∧ σ2[n]? = some (some u) ∧ forD gd g (ds.drop (i + 1)) ρ'' = some o, fun σ2 H2 ⟨H1'', ρ'', a1, a2, a3⟩ => ⟨ds.length - (i + 1), by omega, rfl, H1'', ρ'', a1, a2, a3⟩, fun v H2 y => ?_⟩
    obtain ⟨H1'', x2, dv⟩ := yl v H2 y
    refine qg u B1 B H1'' H2 σ ρ' ρ1 v _ _ (s'.ext x2) w' dv e2 fun σ3 H13 H3 sm3 s3 f3 => ?_
    refine qb u B1 B H13 H3 σ3 ρ1 o1 _ s3 f3 e3 ?_
    have sm4 : Same Hi H13 := (sm.trans x2.st).trans sm3
    cases o1 with
    | nx ρ2 => exact fun σ4 H14 H4 sm5 s4 f4 => ⟨H14, ρ2, sm4.trans sm5, s4, f4, e'⟩
    | ct ρ2 => exact fun σ4 H14 H4 sm5 s4 f4 => ⟨H14, ρ2, sm4.trans sm5, s4, f4, e'⟩
    | bk ρ2 =>
      cases e'
      exact fun σ4 H14 H4 sm5 s4 f4 => k σ4 H14 H4 ((x.st.trans sm4).trans sm5) s4 f4
    | rt d =>
      cases e'
      exact k
  · left
    rw [List.drop_eq_nil_of_le (by omega)] at e'
    cases e'
    exact ⟨w2 (by omega), k σ H1' H (x.st.trans sm) s' w'⟩
end
/-! ### a statement that reads the slot's lists, and leaves them -/
def nm : Option W → Bool
  | none => true
  | some (.im _) => true
  | _ => false
def noMut (ρ : En) : Bool := ρ.all nm
def cleanW : Option W → Option W
  | some (.im d) => if noL d = true then some (.im d) else none
  | _ => none
def cleanE (ρ : En) : En := ρ.map cleanW
def thw (i : Nat) (rows : List (List PyData)) : Out → Option Out
  | .nx ρ' => some (.nx ((cleanE ρ').set i (some (.mm rows))))
  | _ => none
def sThaw (i : Nat) (f : En → Option Out) : En → Option Out := fun ρ => match ρ[i]? with
  | some (some (.mm rows)) => if noMut (frzMM i ρ) = true then (f (frzMM i ρ)).bind (thw i rows) else none
  | _ => none
theorem noMut_owned {ρ : En} (h : noMut ρ = true) {i : Nat} {w : W} (e : ρ[i]? = some (some w)) {H : Hp} {v : V} {b : Addr} (o : Owned H v b w) : False := by
  have := List.all_eq_true.mp h _ (List.mem_of_getElem? e)
  cases w with
  | im d => exact o
  | xo a c => exact o
  | fo C fs => exact o
  | so C a dx fs => simp [nm] at this
  | ob C fs => simp [nm] at this
  | ml d => simp [nm] at this
  | md d => simp [nm] at this
  | mm d => simp [nm] at this
theorem ds_thaw (i : Nat) {X : Cx} {st : Stmt} {f : En → Option Out} (h : FS i X st f) : DS X st (sThaw i f) := by
  obtain ⟨t, p, q⟩ := h
  refine ⟨t, p, fun B1 B H1 H σ ρ o D s e k => ?_⟩
  unfold sThaw at e
  split at e
  · rename_i rows em
    split at e
    · rename_i hm
      obtain ⟨o1, e1, e⟩ := bind_some e
      cases o1 with
      | nx ρ' =>
        cases e
        have hl : i < ρ.length := (List.getElem?_eq_some_iff.mp em).1
        obtain ⟨A, ks, eσ, hA, nA, hr, h1, h2, h3⟩ := s.sok.mm em
        obtain ⟨S, s1, s2, s3, s4⟩ := s.sok.frzMM em
        obtain ⟨s4, s5⟩ := s4 A ks eσ hA
        refine q (.ref A) (addH H1 H S) H (addH H1 H S) H σ _ _ D ⟨s3, s3.sub, .refl s3.sub, fun j w v b e2 f2 o2 => (noMut_owned hm e2 o2).elim⟩ eσ e1 ?_
        intro σ' H1' H' sm s' eσ'
        have x := ext_cut s.sok.sub s1 s'.fr
        have hS : ∀ a ∈ S, ∃ xs, H1' a = some (.lst xs) := fun a ha => by
          obtain ⟨xs, hx⟩ := s2 a ha
          exact ⟨xs, sm a _ (by unfold addH; rw [if_pos ha]; exact hx)⟩
        have sH : Same H H' := x.same s.sok.sub
        have hA' := sH _ _ hA
        have hlen : (frzMM i ρ).length = ρ.length := by
          unfold frzMM
          rw [em]
          exact List.length_set
        have eσl : i < σ'.length := (List.getElem?_eq_some_iff.mp eσ').1
        have hl' : i < ρ'.length := by rw [← s'.sok.len]; exact eσl
        have cs : ∀ {j : Nat} {u}, ((cleanE ρ').set i (some (.mm rows)))[j]? = some (some u) → (i = j ∧ u = .mm rows) ∨ (i ≠ j ∧ ∃ d, u = .im d ∧ noL d = true ∧ ρ'[j]? = some (some (.im d))) := fun {j u} e => by
          by_cases hj : i = j
          · subst hj
            rw [List.getElem?_set_self (by unfold cleanE; rw [List.length_map]; exact hl')] at e
            cases e
            exact .inl ⟨rfl, rfl⟩
          · rw [List.getElem?_set_ne hj] at e
            unfold cleanE at e
            rw [List.getElem?_map] at e
            cases hq : ρ'[j]? with
            | none => rw [hq] at e; cases e
            | some w =>
              rw [hq] at e
              have e : some (cleanW w) = some (some u) := e
              cases w with
              | none => cases e
              | some w =>
                cases w with
                | im d =>
                  have e : (if noL d = true then some (W.im d) else none) = some u := Option.some.inj e
                  by_cases hn : noL d = true
                  · rw [if_pos hn] at e
                    cases e
                    exact .inr ⟨hj, d, rfl, hn, rfl⟩
                  · rw [if_neg hn] at e
                    cases e
                | _ => cases e
        have ownS : ∀ b, Owned H' (.ref A) b (.mm rows) → Owned H (.ref A) b (.mm rows) := fun b ob => by
          rcases ob with h | ⟨a', ks', h, e', hb⟩
          · exact .inl h
          · cases h
            rw [hA'] at e'
            injection e' with e'
            injection e' with e'
            exact .inr ⟨A, ks, rfl, hA, by rw [map_ref_inj e']; exact hb⟩
        have nS : ∀ b ∈ S, cutH H1' S b = none := fun b hb => by unfold cutH; rw [if_pos hb]
        refine k σ' (cutH H1' S) H' x.st ⟨⟨x.sub, ?_, fun j w e2 => ?_, fun j l u u' v1 v2 b e1 e2 f1 f2 o1 o2 => ?_⟩, s.bs, s.fr.trans x, fun j w v b e2 f2 o2 => ?_⟩
        · rw [List.length_set]
          unfold cleanE
          rw [List.length_map]
          exact s'.sok.len
        · rcases cs e2 with ⟨rfl, rfl⟩ | ⟨hj, d, rfl, hn, e3⟩
          · refine ⟨_, eσ', A, ks, rfl, hA', nS _ s4, hr, h1, h2, ?_⟩
            exact Paired.mapP (h3.ext x) fun k ds z => z
          · obtain ⟨v, f, z⟩ := s'.sok.at_ j _ e3
            exact ⟨v, f, Den.cutH hS d v hn z⟩
        · rcases cs e1 with ⟨rfl, rfl⟩ | ⟨hj, d, rfl, _⟩
          · rcases cs e2 with ⟨rfl, rfl⟩ | ⟨hj, d, rfl, _⟩
            · rfl
            · exact o2.elim
          · exact o1.elim
        · rcases cs e2 with ⟨rfl, rfl⟩ | ⟨hj, d, rfl, _⟩
          · rw [eσ'] at f2
            cases f2
            exact s.own _ _ _ b em eσ (ownS b o2)
          · exact o2.elim
      | _ => cases e
    · cases e
  · cases e
/-! ### len(set(ints)), distinct ints -/
def lenSetD : PyData → Option PyData
  | .list ds => (intsD ds).bind fun ns => if ns.Nodup ∧ ns.length ≤ 4000 then some (.int ns.length) else none
  | _ => none
theorem de_lenSet {X : Cx} {e : Expr} {f : En → Option PyData} {p p2 q pos : Pos} (hg : Gl X "len") (hm : X.mg "len" = none) (hg2 : Gl X "set") (hm2 : X.mg "set" = none) (he : DE X e f) (hc : X.calm = true := by rfl)
    (na : starEach [e] X.env = (false, eval e X.env) :: starEach [] X.env := by rfl) : DE X (.Call (.Name "len" p) [.Call (.Name "set" p2) [e] [] q] [] pos) (e1 lenSetD f) := by
  obtain ⟨t, pt, qt⟩ := he
  refine ⟨_, RZ.pe_lenSetI hg hm hg2 hm2 pt hc na, fun σ H1 H ρ d Q s h k => ?_⟩
  obtain ⟨d1, h1, h⟩ := bind_some h
  cases d1 <;> try (cases h)
  rename_i ds
  obtain ⟨ns, h2, h⟩ := bind_some h
  obtain ⟨⟨nd, hl⟩, rfl⟩ := of_if h
  refine qt σ H1 H ρ _ _ s h1 fun v H1' H' x dv => ?_
  cases dv with
  | lst hs hl2 dl =>
    have ev := intsD_vals h2 dl
    subst ev
    exact ⟨_, ns, rfl, x.sub.seq hs, nd, hl, k _ H1' H' x (.int _)⟩
theorem lenSetD_i {ns : List Int} (h : ns.Nodup) (hl : ns.length ≤ 4000) : lenSetD (.list (ns.map PyData.int)) = some (.int ns.length) := by
  show (intsD (ns.map PyData.int)).bind _ = _
  rw [intsD_map, Option.bind_some, if_pos ⟨h, hl⟩]
/-! ### how the functions are reckoned -/
@[simp] theorem eLenMM_0 {ρ : En} {rows : List (List PyData)} : eLenMM 0 (some (.mm rows) :: ρ) = some (.int rows.length) := rfl
@[simp] theorem eLenMM_s {i : Nat} {ρ : En} {x} : eLenMM (i + 1) (x :: ρ) = eLenMM i ρ := rfl
@[simp] theorem noL_int {k : Int} : noL (.int k) = true := rfl
theorem noLs_all : ∀ {ds : List PyData}, (∀ d ∈ ds, noL d = true) → noLs ds = true
  | [], _ => rfl
  | d :: ds, h => by
    show (noL d && noLs ds) = true
    rw [h d List.mem_cons_self, noLs_all fun x hx => h x (List.mem_cons_of_mem _ hx)]
    rfl
theorem noL_tuple {ds : List PyData} (h : ∀ d ∈ ds, noL d = true) : noL (.tuple ds) = true := noLs_all h
end Dv

/-! list(d.values()), xs.index(x) -/
namespace Dv
open PySem PySem.Spec PyProof.Rows L2
section
variable {X : Cx} {e : Expr} {te : TE} {p apos cpos pos : Pos}
def tListVals (te : TE) : TE := fun σ H Q => te σ H fun x H1 => ∃ d kvs, x = V.ref d ∧ H1 d = some (.dK kvs) ∧ ∀ q, H1 q = none → Q (.ref q) (upd H1 q (.lst (kvs.map (·.2))))
theorem pe_listVals (hc : X.calm = true) (he : PE X e te) (hg : Gl X "list") (hm : X.mg "list" = none) (hbase : attributeBase e "values" X.env (eval e X.env) = eval e X.env := by rfl) (hline : (apos.endLine == cpos.line) = true := by rfl)
    (hs : starEach [.Call (.Attribute e "values" apos) [] [] cpos] X.env = (false, eval (.Call (.Attribute e "values" apos) [] [] cpos) X.env) :: starEach [] X.env := by rfl) :
    PE X (.Call (.Name "list" p) [.Call (.Attribute e "values" apos) [] [] cpos] [] pos) (tListVals te) := by
  refine ⟨fun pins s σ H Q I hq => ?_⟩
  refine wpAny_Call_Name_kw (ld_blt I hg hm boot_list ?_)
  refine PyProof.Rows.callWith_type1 ?_ hs rfl
  rw [hs]
  show wpAny _ _ (spliced ((false, eval (.Call (.Attribute e "values" apos) [] [] cpos) X.env) :: backTo pos (starEach [] X.env))) _ _ s
  refine Calls.spliced_cons ?_
  refine wpAny_Call_method (T := "dict") (id := "dict.values") hbase rfl hline PySem.F.plainAttrs_dict PySem.F.slot_dict_values PySem.F.type_dict_values (thn (he.run pins s σ H _ I hq) fun u s1 ⟨x, H1, I1, rx, d, kvs, ex, hd, q⟩ => ?_)
  subst ex
  obtain rfl : u = Value.ref d := rx
  obtain ⟨hz, hs0, vs, kv, hdo⟩ := I1.hok d _ hd
  obtain ⟨ep, hat⟩ := hdo.dictAt
  have lk : kvs.length = vs.length := Paired.length kv
  have I2 : Inv X pins σ H1 { s1 with heap := s1.heap.push { cls := .type "dict_values", data := .fields #[.ref d] } } := I1.kept (t' := s1.toks) fun b ob q => Heap.get?_push_of_some _ q
  refine ⟨hdo.typeIs, hdo.mapOf.noDict, ?_⟩
  show wpAny _ _ (callWith cpos (.builtin "dict.values") [.ref d] [] []) _ X.xe s1
  refine method_meetsIn PySem.F.slot_dict_values PySem.F.entry_dict_values rfl (PySem.evalArgs_none ⟨rfl, hdo.typeIs, PySem.F.args_dict_values_1 _, _, meets_dict_values (mixKind X.prog X.w) d hs0, ⟨vs, hdo⟩, ?_⟩)
  refine Calls.spliced_nil ?_
  refine PySem.W.kdl_call (PySem.W.kdl_values (knd := mixKind X.prog X.w) (kvs := vs) (ep := ep)) (I1.ok.hd hc) ⟨⟨_, Heap.get?_push_size _ rfl, rfl, rfl⟩, hat.push _⟩ (by rw [← lk]; exact hz) fun h' tk acc' c' hkeep hS hacc => ?_
  have hn : H1 (s1.heap.push { cls := .type "dict_values", data := .fields #[.ref d] }).objs.size = none := I2.hok.fresh (Nat.le_refl _)
  refine ⟨.ref _, upd H1 _ (.lst (kvs.map (·.2))), I2.laid (t' := tk) hkeep (Nat.le_refl _) (show ObjOk X.prog X.w _ _ _ (.lst (kvs.map (·.2))) from ⟨?_, acc'.toList, c', ?_, ?_⟩), rfl, q _ hn⟩
  · rw [List.length_map]; exact hz
  · have el : acc'.toList.length = acc'.size := by simp
    refine vals_of_at (by rw [List.length_map, el, hacc.1, lk]) fun j x w h1 h2 => ?_
    obtain ⟨k, hky⟩ := hacc.2 j w (by rw [← Array.getElem?_toList]; exact h2)
    obtain ⟨y, g1, g2⟩ := L2.KV.at' kv hky
    rw [List.getElem?_map, g1] at h1
    cases h1
    exact g2
  · rw [Array.toArray_toList]; exact hS
theorem kvs_vals {K : PySem.W.Frag} {H : Hp} : ∀ {ws : List (Key × V)} {kvs : KD}, DenKV K H ws kvs → DenL K H (ws.map (·.2)) (kvs.map (·.2))
  | _, _, .nil => .nil
  | _, _, .cons ⟨_, b⟩ t => .cons b (kvs_vals t)
def eValsM (i : Nat) : En → Option (List PyData) := fun ρ => match ρ[i]? with
  | some (some (.md kvs)) => some (kvs.map (·.2))
  | _ => none
@[simp] theorem eValsM_0 {ρ : En} {kvs : KD} : eValsM 0 (some (.md kvs) :: ρ) = some (kvs.map (·.2)) := rfl
@[simp] theorem eValsM_s {i : Nat} {ρ : En} {x} : eValsM (i + 1) (x :: ρ) = eValsM i ρ := rfl
theorem dl_valsM (i : Nat) {x : Str} {px : Pos} (hc : X.calm = true) (hg : Gl X "list") (hm : X.mg "list" = none) (hN : X.N[i]? = some x := by rfl) (hv : Vis X.env.scope x := by first | exact Or.inl rfl | exact Or.inr (Or.inl rfl) | exact Or.inr (Or.inr rfl)) (hd : (x == ("__debug__" : Str)) = false := by decide)
    (hcd : (x == ("__classdict__" : Str)) = false := by decide) (hbase : attributeBase (.Name x px) "values" X.env (eval (.Name x px) X.env) = eval (.Name x px) X.env := by rfl) (hline : (apos.endLine == cpos.line) = true := by rfl)
    (hs : starEach [.Call (.Attribute (.Name x px) "values" apos) [] [] cpos] X.env = (false, eval (.Call (.Attribute (.Name x px) "values" apos) [] [] cpos) X.env) :: starEach [] X.env := by rfl) :
    DL X (.Call (.Name "list" p) [.Call (.Attribute (.Name x px) "values" apos) [] [] cpos] [] pos) (eValsM i) := by
  refine ⟨_, pe_listVals hc (pe_var hN hv hd hcd) hg hm hbase hline hs, fun σ H1 H ρ ds Q s h k => ?_⟩
  unfold eValsM at h
  split at h
  · rename_i kvs em
    cases h
    obtain ⟨a, ws, eσ, hA, nA, hl, dk⟩ := s.md em
    refine ⟨_, eσ, a, ws, rfl, hA, fun q nq => ?_⟩
    exact k q _ H1 _ (.newMut s.sub nq) nq upd_same (s.sub.free nq) (by rw [List.length_map]; exact hl) (kvs_vals dk)
  · cases h
/-! xs.index(x) -/
theorem _root_.L2.Room.units65 {k : Nat} {A : Around} (r : L2.Room k A) : A.units + 65 < cLine := by have := r.un; omega
def indexD (d e : PyData) : Option PyData := match d with
  | .list ds => if good (.list ds) && good e then ((List.range ds.length).find? fun j => PyData.eqv (ds.getD j .none) e).map fun j => PyData.int (j : Nat) else none
  | _ => none
theorem de_index {fa fb : En → Option PyData} {a b : Expr} (hu : X.A.units + 64 < cLine) (hu2 : X.A.units + 65 < cLine) (ha : DE X a fa) (hb : DE X b fb) (pe : ∀ {to te : TE}, PE X a to → PE X b te → PE X (.Call (.Attribute a "index" apos) [b] [] cpos) (tBM X.K "list" (rIndexD X.K) to (tCons te tNil))) :
    DE X (.Call (.Attribute a "index" apos) [b] [] cpos) (e2 indexD fa fb) := by
  obtain ⟨ta, pa, qa⟩ := ha
  obtain ⟨tb, pb, qb⟩ := hb
  refine ⟨_, pe pa pb, fun σ H1 H ρ d Q s h k => ?_⟩
  obtain ⟨d1, h1, h⟩ := bind_some h
  obtain ⟨d2, h2, h⟩ := bind_some h
  cases d1 with
  | list ds =>
    have h : (if good (.list ds) && good d2 then ((List.range ds.length).find? fun j => PyData.eqv (ds.getD j .none) d2).map fun j => PyData.int (j : Nat) else none) = some d := h
    split at h
    · rename_i hg
      rw [Bool.and_eq_true] at hg
      obtain ⟨j, hj, rfl⟩ := map_some h
      refine qa σ H1 H ρ _ _ s h1 fun x H1' H' x1 q1 => ?_
      cases q1 with
      | lst hs hl dl =>
        refine ⟨.inl ⟨rfl, _, x1.sub.seq hs⟩, qb σ H1' H' ρ d2 _ (s.ext x1) h2 fun y H2 H2' x2 q2 => ?_⟩
        have sm := x2.st.trans x2.sub
        have p1 := List.find?_some hj
        have hlt : j < ds.length := List.mem_range.mp (List.mem_of_find?_eq_some hj)
        have e0 : ds.getD j .none = ds[j] := by rw [List.getD_eq_getElem?_getD, List.getElem?_eq_getElem hlt]; rfl
        simp only [e0] at p1
        refine ⟨_, y, d2, ds, j, ds[j], rfl, rfl, .lst (sm.seq hs) (DenL.dp _ _ (DenL.mono sm _ _ dl)), Den.dp _ _ (Den.mono x2.sub _ _ q2), good_shaped hg.1, good_shaped hg.2, List.getElem?_eq_getElem hlt, p1, fun m z' hm hz => ?_, k _ H2 H2' (x1.trans x2) (.int _)⟩
        obtain ⟨_, as, bs, e1, e2⟩ := List.find?_eq_some_iff_append.mp hj
        have hmem : m ∈ as := by
          have e3 : (List.range ds.length)[m]? = some m := List.getElem?_range (by omega)
          have la : as.length = j := by
            have e4 : (List.range ds.length)[as.length]? = some j := by rw [e1]; simp
            have hal : as.length < ds.length := by
              have := congrArg List.length e1
              rw [List.length_range, List.length_append, List.length_cons] at this
              omega
            rw [List.getElem?_range hal] at e4
            exact Option.some.inj e4
          rw [e1, List.getElem?_append_left (by omega)] at e3
          exact List.mem_of_getElem? e3
        have := e2 m hmem
        simpa [hz] using this
    · cases h
  | _ => cases h
/-! [..] * n -/
def repD (ds : List PyData) : PyData → Option (List PyData)
  | .int k => if 0 ≤ k ∧ k ≤ 1000000 ∧ ds.length * k.toNat ≤ sizeLine then some (List.replicate k.toNat ds).flatten else none
  | _ => none
def eRep (fl : En → Option (List PyData)) (fk : En → Option PyData) : En → Option (List PyData) := fun ρ => (fl ρ).bind fun ds => (fk ρ).bind fun k => repD ds k
@[simp] theorem eRep_ap {fl : En → Option (List PyData)} {fk : En → Option PyData} {ρ : En} : eRep fl fk ρ = (fl ρ).bind fun ds => (fk ρ).bind fun k => repD ds k := rfl
theorem dl_rep {fl : En → Option (List PyData)} {fb : En → Option PyData} {a b : Expr} (ha : DL X a fl) (hb : DE X b fb) : DL X (.BinOp a .Mult b pos) (eRep fl fb) := by
  obtain ⟨ta, pa, qa⟩ := ha
  obtain ⟨tb, pb, qb⟩ := hb
  refine ⟨_, pe_op op_rep pa pb, fun σ H1 H ρ d Q s h k => ?_⟩
  obtain ⟨ds, h1, h⟩ := bind_some h
  obtain ⟨d2, h2, h⟩ := bind_some h
  cases d2 with
  | int n =>
    have h : (if 0 ≤ n ∧ n ≤ 1000000 ∧ ds.length * n.toNat ≤ sizeLine then some (List.replicate n.toNat ds).flatten else none) = some d := h
    obtain ⟨⟨n0, n1, n2⟩, rfl⟩ := of_if h
    refine qa σ H1 H ρ ds _ s h1 fun l vs H1' H' x1 nl el nl' ll dl => ?_
    refine qb σ H1' H' ρ _ _ (s.ext x1) h2 fun y H2 H2' x2 dy => ?_
    cases dy
    obtain ⟨g1, g2⟩ := x2.fr l _ el nl'
    refine ⟨l, n, vs, rfl, rfl, g2, by omega, by omega, by rw [dl.length]; exact n2, fun p np => ?_⟩
    refine k p _ H2 _ ((x1.trans x2).trans (.newMut x2.sub np)) (((x1.trans x2).same s.sub).free np) upd_same (x2.sub.free np) (by rw [rep_len, Nat.mul_comm]; exact n2) ((DenL.mono x2.st _ _ dl).rep _)
  | _ => cases h
end
end Dv

/-! what raises: own exceptions, raise, try -/
namespace Dv
open PySem PySem.Spec PyProof.Rows L2
inductive Res where
  | ok (d : PyData)
  | ex (c : Str)
inductive OutX where
  | o (o : Out)
  | ex (c : Str) (ρ : En)
def EndsX (K : PySem.W.Frag) (mg : Str → Option Value) (B1 B H1 : Hp) (D : Ends) (W : WX) : OutX → Prop
  | .o out => EndsOk K B1 B H1 D out
  | .ex c ρ => ∀ C, mg c = some (.ref C) → ∀ σ H1' H', Same H1 H1' → Sst K B1 B H1' H' σ ρ → W (.ref C) none σ H'
theorem EndsX.mono {K : PySem.W.Frag} {mg : Str → Option Value} {B1 B H1 H1' : Hp} {D : Ends} {W : WX} {o : OutX} (h : EndsX K mg B1 B H1 D W o) (s : Same H1 H1') : EndsX K mg B1 B H1' D W o := by
  cases o with
  | o out => exact EndsOk.mono h s
  | ex c ρ => exact fun C g σ H2 H' s' => h C g σ H2 H' (s.trans s')
def DX (X : Cx) (W : WX) (st : Stmt) (f : En → Option OutX) : Prop :=
  ∃ t, PS X st t ∧ ∀ (B1 B H1 H : Hp) (σ : L2.St) (ρ : En) (o : OutX) (D : Ends), Sst X.K B1 B H1 H σ ρ → f ρ = some o → EndsX X.K X.mg B1 B H1 D W o → t D σ H
def DXs (X : Cx) (W : WX) (sts : List Stmt) (f : En → Option OutX) : Prop :=
  ∃ t, PSs X sts t ∧ ∀ (B1 B H1 H : Hp) (σ : L2.St) (ρ : En) (o : OutX) (D : Ends), Sst X.K B1 B H1 H σ ρ → f ρ = some o → EndsX X.K X.mg B1 B H1 D W o → t D σ H
def rdXs (K : PySem.W.Frag) (mg : Str → Option Value) (W : WX) (f : En → Option OutX) : TS := fun D σ H => ∃ (B1 B H1 : Hp) (ρ : En) (o : OutX), Sst K B1 B H1 H σ ρ ∧ f ρ = some o ∧ EndsX K mg B1 B H1 D W o
def rdSs (K : PySem.W.Frag) (f : En → Option Out) : TS := fun D σ H => ∃ (B1 B H1 : Hp) (ρ : En) (o : Out), Sst K B1 B H1 H σ ρ ∧ f ρ = some o ∧ EndsOk K B1 B H1 D o
section
variable {X : Cx} {W : WX} {sts : List Stmt} {st : Stmt} {f : En → Option OutX}
theorem DXs.pss (h : DXs X W sts f) : PSs X sts (rdXs X.K X.mg W f) := by
  obtain ⟨t, p, q⟩ := h
  exact ⟨fun pins s σ H D I ⟨B1, B, H1, ρ, o, sk, hf, k⟩ => p.run pins s σ H D I (q B1 B H1 H σ ρ o D sk hf k)⟩
theorem DSs.pss {g : En → Option Out} (h : DSs X sts g) : PSs X sts (rdSs X.K g) := by
  obtain ⟨t, p, q⟩ := h
  exact ⟨fun pins s σ H D I ⟨B1, B, H1, ρ, o, sk, hf, k⟩ => p.run pins s σ H D I (q B1 B H1 H σ ρ o D sk hf k)⟩
def xO (g : En → Option Out) : En → Option OutX := fun ρ => (g ρ).map .o
theorem dxs_of {g : En → Option Out} (h : DSs X sts g) : DXs X W sts (xO g) := by
  obtain ⟨t, p, q⟩ := h
  refine ⟨t, p, fun B1 B H1 H σ ρ o D s e k => ?_⟩
  obtain ⟨o1, e1, rfl⟩ := map_some e
  exact q B1 B H1 H σ ρ o1 D s e1 k
theorem dx_of {g : En → Option Out} (h : DS X st g) : DX X W st (xO g) := by
  obtain ⟨t, p, q⟩ := h
  refine ⟨t, p, fun B1 B H1 H σ ρ o D s e k => ?_⟩
  obtain ⟨o1, e1, rfl⟩ := map_some e
  exact q B1 B H1 H σ ρ o1 D s e1 k
theorem dxs_one (h : DX X W st f) : DXs X W [st] f := by
  obtain ⟨t, p, q⟩ := h
  exact ⟨_, pss_one p, q⟩
def thenX (g : En → Option OutX) : OutX → Option OutX
  | .o (.nx ρ) => g ρ
  | o => some o
def xSeq (f g : En → Option OutX) : En → Option OutX := fun ρ => (f ρ).bind (thenX g)
theorem dxs_cons {g : En → Option OutX} (h1 : DX X W st f) (h2 : DXs X W sts g) : DXs X W (st :: sts) (xSeq f g) := by
  obtain ⟨t, p, q⟩ := h1
  obtain ⟨u, p', q'⟩ := h2
  refine ⟨_, pss_cons p p', fun B1 B H1 H σ ρ o D s e k => ?_⟩
  obtain ⟨o1, e1, e⟩ := bind_some e
  refine q B1 B H1 H σ ρ o1 { D with nx := u D } s e1 ?_
  cases o1 with
  | ex c ρ' => cases e; exact k
  | o out =>
    cases out with
    | nx ρ' => exact fun σ' H1' H' sm s' => q' B1 B H1' H' σ' ρ' o D s' e (k.mono sm)
    | rt d => cases e; exact k
    | bk ρ' => cases e; exact k
    | ct ρ' => cases e; exact k
def xIf (t : En → Option Bool) (f g : En → Option OutX) : En → Option OutX := fun ρ => (t ρ).bind fun b => if b = true then f ρ else g ρ
theorem dx_if {c : Expr} {pos : Pos} {tf : En → Option Bool} {g : En → Option OutX} {ss us : List Stmt} (hc : DT X c tf) (ha : DXs X W ss f) (hb : DXs X W us g) : DX X W (.If c ss us pos) (xIf tf f g) := by
  obtain ⟨t, p, q⟩ := hc
  obtain ⟨ta, pa, qa⟩ := ha
  obtain ⟨tb, pb, qb⟩ := hb
  refine ⟨_, ps_if p pa pb, fun B1 B H1 H σ ρ o D s e k => ?_⟩
  obtain ⟨c, e1, e⟩ := bind_some e
  refine q σ H1 H ρ c _ s.sok e1 fun H1' H' x => ?_
  cases c with
  | true => exact qa B1 B H1' H' σ ρ o D (s.ext x) e (k.mono x.st)
  | false => exact qb B1 B H1' H' σ ρ o D (s.ext x) e (k.mono x.st)
/-- what the class c, at C, must say to be raised -/
structure ExF (K : PySem.W.Frag) (mg : Str → Option Value) (c : Str) (C : Addr) : Prop where
  g : mg c = some (.ref C)
  x : PySem.W.excIn K C [.type "ValueError", .type "Exception", .type "BaseException", .type "object"] "ValueError.__new__" = true
  k : PySem.W.keepIn K (.ref C) = true
  b : PySem.W.subIn K (.ref C) (.type "BaseException") = some true
  t : PySem.W.typeIn K (.ref C) = some (.type "type")
def xRaise (c : Str) : En → Option OutX := fun ρ => some (.ex c ρ)
theorem dx_raise {x m : Str} {j : Nat} {C : Addr} {p p2 pos pos2 : Pos} (hc : X.calm = true) (tk : Takes X W) (F : ExF X.K X.mg x C) (hg : Gl X x) (hdb : (x == ("__debug__" : Str)) = false := by decide) :
    DX X W (.Raise (some (.Call (.Name x p) [.Constant (.str m) j p2] [] pos)) none pos2) (xRaise x) := by
  refine ⟨_, ps_raise hc tk (pmk_own PySem.F.excBase_ValueError F.x F.g F.k (raises_own F.b F.t) hg hdb), fun B1 B H1 H σ ρ o D s e k => ?_⟩
  cases e
  exact k C F.g σ H1 H (.refl _) s
/-! ### defs that may raise -/
def spX (K : PySem.W.Frag) (mg : Str → Option Value) (n : Nat) (g : List PyData → Option Res) : Sp := fun vs H Q E => vs.length = n ∧ ∃ (H1 : Hp) (ds : List PyData) (r : Res), Same H1 H ∧ DenL K H1 vs ds ∧ g ds = some r ∧
  (∀ d, r = .ok d → ∀ v H1' H', Ext H1 H H1' H' → Den K H1' v d → Q v H') ∧ ∀ c, r = .ex c → ∀ C, mg c = some (.ref C) → ∀ H1' H', Ext H1 H H1' H' → E (.ref C) none H'
structure CalX (P : Program) (w : World) (K : PySem.W.Frag) (mg : Str → Option Value) (base : Heap) (k : Nat) (x : Str) (n : Nat) (g : List PyData → Option Res) : Prop where
  ex : ∃ (f : Addr) (fd : FuncData) (ps : List Str), FnOk P w K mg base (L2.CX P w) k f fd ps (spX K mg n g) ∧ mg x = some (.ref f) ∧ PySem.W.keepIn K (.ref f) = true ∧ Binds K fd ps []
def outX : Option OutX → Option Res
  | some (.o (.rt d)) => some (.ok d)
  | some (.o (.nx _)) => some (.ok .none)
  | some (.ex c _) => some (.ex c)
  | _ => none
def fnX (n m : Nat) (f : En → Option OutX) (ds : List PyData) : Option Res := if ds.length = n then outX (f (ds.map (fun d => some (.im d)) ++ List.replicate m none)) else none
end
section
variable {P : Program} {w : World} {K : PySem.W.Frag} {mg : Str → Option Value} {base : Heap}
theorem sst_start {H1 H : Hp} {vs : List V} {ds : List PyData} {m : Nat} (sm : Same H1 H) (dl : DenL K H1 vs ds) : Sst K H1 H H1 H (vs.map some ++ List.replicate m none) (ds.map (fun d => some (.im d)) ++ List.replicate m none) := by
  refine ⟨sok_start sm dl, sm, .refl sm, fun i w v b e _ m => ?_⟩
  have := List.mem_of_getElem? e
  rcases List.mem_append.mp this with z | z
  · obtain ⟨d, _, z⟩ := List.mem_map.mp z
    cases z
    exact m.elim
  · have := List.eq_of_mem_replicate z
    cases this
theorem calX_mk {x : Str} {st : Stmt} {f : Addr} {fd : FuncData} {N ps : List Str} {k : Nat} {fb : En → Option OutX} (n m : Nat) (F : Fun K x x st f fd) (hm : mg x = some (.ref f)) (b : Binds K fd ps []) (S : FnScope N ps (defScope st)) (hn : ps.length = n) (hNm : N.length = n + m)
    (body : ∀ (cdv : Value) (A : Around) (outer : List Env) (s : Shared) (H : Hp) (E : XK), Room k (A.deeper (envOfC x (defScope st) s.heap.objs.size f cdv)) →
      DXs (cxOf (L2.CX P w) P w K mg base N x (defScope st) f cdv A outer s H E) (fun cls d _ H => E cls d H) (defBody st) fb) :
    CalX P w K mg base (k + 1) x n (fnX n m fb) := by
  subst hn
  refine ⟨f, fd, ps, F.okX S (fun vs H Q E h => h.1) (fun cdv A outer s H vs Q E hr h => ?_), hm, F.kp, b⟩
  obtain ⟨hl, H1, ds, r, sm, dl, e, k1, k2⟩ := h
  obtain ⟨t, p, q⟩ := body cdv A outer s H E hr
  unfold fnX at e
  have hds : ds.length = ps.length := by rw [← dl.length]; exact hl
  rw [if_pos hds] at e
  refine ⟨t, p, ?_⟩
  have hst : L2.start N vs = vs.map some ++ List.replicate m none := by
    unfold L2.start
    rw [show N.length - vs.length = m by omega]
  rw [hst]
  cases ho : fb (ds.map (fun d => some (.im d)) ++ List.replicate m none) with
  | none => rw [ho] at e; cases e
  | some o =>
    rw [ho] at e
    refine q H1 H H1 H _ _ o _ (sst_start sm dl) ho ?_
    cases o with
    | ex c ρ =>
      cases e
      exact fun C g σ H1' H' _ s => k2 c rfl C g H1' H' s.fr
    | o out =>
      cases out with
      | rt d' =>
        cases e
        exact fun v H1' H' x dv => k1 d' rfl v H1' H' x dv
      | nx ρ =>
        cases e
        exact fun σ H1' H' _ s => k1 .none rfl .non H1' H' s.fr .non
      | bk ρ => cases e
      | ct ρ => cases e
end
section
variable {X : Cx} {W : WX} {e : Expr} {es : List Expr} {fs : En → Option (List PyData)} {pos p : Pos} {x : Str} {k j n : Nat} {g : List PyData → Option Res}
/-- a call that ends well -/
def okR : Res → Option PyData
  | .ok d => some d
  | .ex _ => none
def eNX (g : List PyData → Option Res) (fs : En → Option (List PyData)) : En → Option PyData := fun ρ => (fs ρ).bind fun ds => (g ds).bind okR
theorem passF {X : Cx} : Passes (L2.CX X.prog X.w) X (fun _ _ _ => False) := fun _ _ _ _ _ _ _ c => by
  obtain ⟨_, _, _, _, _, _, _, _, _, _, _, _, z⟩ := c
  exact z.elim
theorem de_fnX (c : CalX X.prog X.w X.K X.mg X.base k x n g) (hr : Room j X.A) (hk : k ≤ j) (hg : Gl X x) (ha : DA X (e :: es) fs) (hn : ∀ ρ ds, fs ρ = some ds → ds.length = n) (hdb : (x == ("__debug__" : Str)) = false := by decide)
    (he : starEach (e :: es) X.env = (false, eval e X.env) :: starEach es X.env := by rfl) (hpl : (backTo pos (starEach es X.env)).any (·.1) = false := by rfl) :
    DE X (.Call (.Name x p) (e :: es) [] pos) (eNX g fs) := by
  obtain ⟨f, fd, ps, F, hm, kp, b⟩ := c.ex
  obtain ⟨t, pt, q⟩ := ha
  refine ⟨_, pe_call F (hr.mono hk) hg hm kp b .nil passF pt hdb he hpl, fun σ H1 H ρ d Q s h k => ?_⟩
  obtain ⟨ds, h1, h⟩ := bind_some h
  obtain ⟨r, h2, h⟩ := bind_some h
  refine q σ H1 H ρ ds _ s h1 fun vs H1' H' x1 q1 => ?_
  show spX X.K X.mg n g (vs ++ []) H' Q _
  rw [List.append_nil]
  refine ⟨q1.length.trans (hn _ _ h1), H1', ds, r, x1.sub, q1, h2, fun d' e v H2 H2' x2 dv => ?_, fun c e => ?_⟩
  · subst e
    cases h
    exact k v H2 H2' (x1.trans x2) dv
  · subst e
    cases h
def resX (ok : PyData → OutX) (ρ : En) : Res → OutX
  | .ok d => ok d
  | .ex c => .ex c ρ
/-- f(..), what comes of it left -/
def xCall (g : List PyData → Option Res) (fs : En → Option (List PyData)) : En → Option OutX := fun ρ => (fs ρ).bind fun ds => (g ds).map (resX (fun _ => .o (.nx ρ)) ρ)
theorem dx_call {pos2 : Pos} (tk : Takes X W) (c : CalX X.prog X.w X.K X.mg X.base k x n g) (hr : Room j X.A) (hk : k ≤ j) (hg : Gl X x) (ha : DA X (e :: es) fs) (hn : ∀ ρ ds, fs ρ = some ds → ds.length = n) (hdb : (x == ("__debug__" : Str)) = false := by decide)
    (he : starEach (e :: es) X.env = (false, eval e X.env) :: starEach es X.env := by rfl) (hpl : (backTo pos (starEach es X.env)).any (·.1) = false := by rfl) (hs : swapsWith (.Call (.Name x p) (e :: es) [] pos) none pos2.line X.env = pure false := by rfl) :
    DX X W (.Expr (.Call (.Name x p) (e :: es) [] pos) pos2) (xCall g fs) := by
  obtain ⟨f, fd, ps, F, hm, kp, b⟩ := c.ex
  obtain ⟨t, pt, q⟩ := ha
  refine ⟨_, ps_expr (pe_callS F (hr.mono hk) hg hm kp b (fun σ => passAt tk σ) pt hdb he hpl) hs, fun B1 B H1 H σ ρ o D s h k => ?_⟩
  obtain ⟨ds, h1, h⟩ := bind_some h
  obtain ⟨r, h2, rfl⟩ := map_some h
  refine q σ H1 H ρ ds _ s.sok h1 fun vs H1' H' x1 q1 => ?_
  refine ⟨q1.length.trans (hn _ _ h1), H1', ds, r, x1.sub, q1, h2, fun d' e v H2 H2' x2 dv => ?_, fun c e C gc H2 H2' x2 => ?_⟩
  · subst e
    exact k σ H2 H2' (x1.st.trans x2.st) ((s.ext x1).ext x2)
  · subst e
    exact k C gc σ H2 H2' (x1.st.trans x2.st) ((s.ext x1).ext x2)
/-- y = f(..) -/
def xAsg (i : Nat) (g : List PyData → Option Res) (fs : En → Option (List PyData)) : En → Option OutX := fun ρ => (fs ρ).bind fun ds => (g ds).map (resX (fun d => .o (.nx (ρ.set i (some (.im d))))) ρ)
theorem dx_asg (i : Nat) {y : Str} {py pos2 : Pos} (hN : X.N.Nodup) (tk : Takes X W) (c : CalX X.prog X.w X.K X.mg X.base k x n g) (hr : Room j X.A) (hk : k ≤ j) (hg : Gl X x) (ha : DA X (e :: es) fs) (hn : ∀ ρ ds, fs ρ = some ds → ds.length = n) (hdb : (x == ("__debug__" : Str)) = false := by decide)
    (he : starEach (e :: es) X.env = (false, eval e X.env) :: starEach es X.env := by rfl) (hpl : (backTo pos (starEach es X.env)).any (·.1) = false := by rfl)
    (hi : X.N[i]? = some y := by rfl) (hx : Loc X.env.scope y := by first | exact Or.inl rfl | exact Or.inr rfl) (hs : swapsWith (.Call (.Name x p) (e :: es) [] pos) (some (.Name y py)) pos2.line X.env = pure false := by rfl) (hf : X.fn y = true ∨ X.env.scope.names.lookup y = some .local := by first | exact .inl rfl | exact .inr rfl) :
    DX X W (.Assign [.Name y py] (.Call (.Name x p) (e :: es) [] pos) pos2) (xAsg i g fs) := by
  obtain ⟨f, fd, ps, F, hm, kp, b⟩ := c.ex
  obtain ⟨t, pt, q⟩ := ha
  refine ⟨_, ps_set hN hi hx (pe_callS F (hr.mono hk) hg hm kp b (fun σ => passAt tk σ) pt hdb he hpl) hs hf, fun B1 B H1 H σ ρ o D s h k => ?_⟩
  obtain ⟨ds, h1, h⟩ := bind_some h
  obtain ⟨r, h2, rfl⟩ := map_some h
  refine q σ H1 H ρ ds _ s.sok h1 fun vs H1' H' x1 q1 => ?_
  refine ⟨q1.length.trans (hn _ _ h1), H1', ds, r, x1.sub, q1, h2, fun d' e v H2 H2' x2 dv => ?_, fun c e C gc H2 H2' x2 => ?_⟩
  · subst e
    exact k _ H2 H2' (x1.st.trans x2.st) (((s.ext x1).ext x2).set i dv)
  · subst e
    exact k C gc σ H2 H2' (x1.st.trans x2.st) ((s.ext x1).ext x2)
end
/-! ### try -/
section
variable {X : Cx} {x nm : Str} {c : Value} {body suite : List Stmt} {b₀ : Stmt} {np pos pos' : Pos} {fb : En → Option OutX} {sub : Str → Option Bool}
def tryO (sub : Str → Option Bool) (fsu : En → Option Out) : OutX → Option Out
  | .o out => some out
  | .ex cn ρ => (sub cn).bind fun b => if b = true then fsu ρ else none
def sTryO (sub : Str → Option Bool) (fb : En → Option OutX) (fsu : En → Option Out) : En → Option Out := fun ρ => (fb ρ).bind (tryO sub fsu)
theorem ds_tryO {fsu : En → Option Out} (hs : X.stack = X.env :: X.outer) (hf : X.env.frame = some X.env.locals) (hc : Names X x c) (hb : ∀ (W : WX) (pn : List (Addr × Obj)) (xe : Value → Shared → Prop), Takes (X.tr pn xe) W → DXs (X.tr pn xe) W body fb)
    (hsu : ∀ a pn, DSs (X.suite a pn) (b₀ :: suite) fsu) (hm : ∀ cn C b, X.mg cn = some (.ref C) → sub cn = some b → PySem.W.exmOne X.K (.ref C) c = some b) :
    DS X (.Try body [.ExceptHandler (some (.Name x np)) none (b₀ :: suite) pos'] [] [] pos) (sTryO sub fb fsu) := by
  refine ⟨_, ps_try_only (tb := fun W => rdXs X.K X.mg W fb) (ts := fun a cls d => rdSs X.K fsu) (Wout := fun _ _ _ _ => False) hs hf hc takes0 (fun W pn xe tk _ => (hb W pn xe tk).pss) (fun a oe cls d pn hz hf => (hsu a _).pss), fun B1 B H1 H σ ρ o D s e k => ?_⟩
  obtain ⟨o1, e1, e⟩ := bind_some e
  refine ⟨B1, B, H1, ρ, o1, s, e1, ?_⟩
  cases o1 with
  | o out => cases e; exact k
  | ex cn ρ' =>
    obtain ⟨b, h1, h2⟩ := bind_some e
    intro C gC σ' H1' H' sm s'
    refine ⟨b, hm cn C b gC h1, fun hb a ha => ?_, fun hb => ?_⟩
    · subst hb
      exact ⟨B1, B, H1', ρ', o, s', h2, k.mono sm⟩
    · subst hb
      cases h2
def subN (c : Str) (b : Bool) : Str → Option Bool := fun cn => if cn = c then some b else none
theorem subN_inv {c cn : Str} {b b' : Bool} (h : subN c b cn = some b') : cn = c ∧ b' = b := by
  unfold subN at h
  split at h
  · rename_i e
    cases h
    exact ⟨e, rfl⟩
  · cases h
def sub2 (c : Str) (b : Bool) (c2 : Str) (b2 : Bool) : Str → Option Bool := fun cn => if cn = c then some b else if cn = c2 then some b2 else none
theorem sub2_inv {c cn c2 : Str} {b b' b2 : Bool} (h : sub2 c b c2 b2 cn = some b') : (cn = c ∧ b' = b) ∨ (cn = c2 ∧ b' = b2) := by
  unfold sub2 at h
  split at h
  · rename_i e
    cases h
    exact .inl ⟨e, rfl⟩
  · split at h
    · rename_i e
      cases h
      exact .inr ⟨e, rfl⟩
    · cases h
open Classical in
noncomputable def allA (F : Addr → Option Out) : Option Out := if h : ∃ d, ∀ a, F a = some (.rt d) then some (.rt h.choose) else none
theorem allA_eq {F : Addr → Option Out} {d : PyData} (h : ∀ a, F a = some (.rt d)) : allA F = some (.rt d) := by
  have hh : ∃ d, ∀ a, F a = some (.rt d) := ⟨d, h⟩
  unfold allA
  rw [dif_pos hh]
  have := hh.choose_spec 0
  rw [h 0] at this
  cases this
  rfl
theorem allA_some {F : Addr → Option Out} {o : Out} (h : allA F = some o) : ∃ d, o = .rt d ∧ ∀ a, F a = some (.rt d) := by
  unfold allA at h
  split at h
  · rename_i hh
    cases h
    exact ⟨_, rfl, hh.choose_spec⟩
  · cases h
noncomputable def tryA (i : Nat) (sub : Str → Option Bool) (fsu : Str → Addr → En → Option Out) : OutX → Option Out
  | .o out => some out
  | .ex cn ρ => (sub cn).bind fun b => if b = true then allA fun a => fsu cn a (ρ.set i (some (.xo a cn))) else none
noncomputable def sTryA (i : Nat) (sub : Str → Option Bool) (fb : En → Option OutX) (fsu : Str → Addr → En → Option Out) : En → Option Out := fun ρ => (fb ρ).bind (tryA i sub fsu)
theorem Sst.setX {K : PySem.W.Frag} {B1 B H1 H : Hp} {σ : L2.St} {ρ : En} (s : Sst K B1 B H1 H σ ρ) (i : Nat) (a : Addr) (cn : Str) : Sst K B1 B H1 H (σ.set i (some (.ref a))) (ρ.set i (some (.xo a cn))) := by
  have cs : ∀ {j : Nat} {u}, (ρ.set i (some (.xo a cn)))[j]? = some (some u) → (i = j ∧ u = .xo a cn ∧ i < ρ.length) ∨ (i ≠ j ∧ ρ[j]? = some (some u)) := fun {j u} e => by
    by_cases hj : i = j
    · subst hj
      have hl : i < ρ.length := by
        have := (List.getElem?_eq_some_iff.mp e).1
        rwa [List.length_set] at this
      rw [List.getElem?_set_self hl] at e
      cases e
      exact .inl ⟨rfl, rfl, hl⟩
    · rw [List.getElem?_set_ne hj] at e
      exact .inr ⟨hj, e⟩
  refine ⟨⟨s.sok.sub, by rw [List.length_set, List.length_set]; exact s.sok.len, fun j u e => ?_, fun j l u u' v1 v2 b e1 e2 f1 f2 o1 o2 => ?_⟩, s.bs, s.fr, fun j u v b e f o => ?_⟩
  · rcases cs e with ⟨rfl, rfl, hl⟩ | ⟨hj, e⟩
    · exact ⟨_, List.getElem?_set_self (by rw [s.sok.len]; exact hl), rfl⟩
    · rw [List.getElem?_set_ne hj]
      exact s.sok.at_ j u e
  · rcases cs e1 with ⟨_, rfl, _⟩ | ⟨h1, e1⟩
    · exact o1.elim
    · rcases cs e2 with ⟨_, rfl, _⟩ | ⟨h2, e2⟩
      · exact o2.elim
      · rw [List.getElem?_set_ne h1] at f1
        rw [List.getElem?_set_ne h2] at f2
        exact s.sok.inj j l u u' v1 v2 b e1 e2 f1 f2 o1 o2
  · rcases cs e with ⟨_, rfl, _⟩ | ⟨h1, e⟩
    · exact o.elim
    · rw [List.getElem?_set_ne h1] at f
      exact s.own j u v b e f o
theorem ds_tryA (i : Nat) {fsu : Str → Addr → En → Option Out} (hN : X.N.Nodup) (hs : X.stack = X.env :: X.outer) (hf : X.env.frame = some X.env.locals) (hc : Names X x c) (hb : ∀ (W : WX) (pn : List (Addr × Obj)) (xe : Value → Shared → Prop), Takes (X.tr pn xe) W → DXs (X.tr pn xe) W body fb)
    (hsu : ∀ cn C a oe pn, X.mg cn = some (.ref C) → sub cn = some true → Zc (.ref C) none oe → (∃ vs, oe.data = .fields vs) → DSs (X.suite a ((a, oe) :: pn)) (b₀ :: suite) (fsu cn a)) (hm : ∀ cn C b, X.mg cn = some (.ref C) → sub cn = some b → PySem.W.exmOne X.K (.ref C) c = some b)
    (hi : X.N[i]? = some nm := by rfl) (hln : X.env.kindOf nm = some .local := by rfl) :
    DS X (.Try body [.ExceptHandler (some (.Name x np)) (some nm) (b₀ :: suite) pos'] [] [] pos) (sTryA i sub fb fsu) := by
  refine ⟨_, ps_try_as (i := i) (tb := fun W => rdXs X.K X.mg W fb) (ts := fun a cls d D σ H => ∃ cn C, cls = Value.ref C ∧ d = none ∧ X.mg cn = some (.ref C) ∧ sub cn = some true ∧ rdSs X.K (fsu cn a) D σ H) (Wout := fun _ _ _ _ => False) hs hf hN hi hln hc takes0 (fun W pn xe tk _ => (hb W pn xe tk).pss)
    (fun a oe cls d pn hz hf => ⟨fun pins s σ H D I ⟨cn, C, e1, e2, e3, e4, r⟩ => by
      subst e1
      subst e2
      exact ((hsu cn C a oe pn e3 e4 hz hf).pss).run pins s σ H D I r⟩), fun B1 B H1 H σ ρ o D s e k => ?_⟩
  obtain ⟨o1, e1, e⟩ := bind_some e
  refine ⟨B1, B, H1, ρ, o1, s, e1, ?_⟩
  cases o1 with
  | o out => cases e; exact k
  | ex cn ρ' =>
    obtain ⟨b, h1, h2⟩ := bind_some e
    intro C gC σ' H1' H' sm s'
    refine ⟨b, hm cn C b gC h1, fun hb a ha => ?_, fun hb => ?_⟩
    · subst hb
      obtain ⟨d, rfl, h3⟩ := allA_some (by simpa using h2)
      refine ⟨cn, C, rfl, rfl, gC, h1, B1, B, H1', _, _, s'.setX i a cn, h3 a, ?_⟩
      exact k
    · subst hb
      cases h2
/-- isinstance(e, c), e the exception that the suite holds -/
def eIsE (i : Nat) (a : Addr) (b : Bool) : En → Option PyData := fun ρ => match ρ[i]? with
  | some (some (.xo a' _)) => if a' = a then some (.bool b) else none
  | _ => none
theorem de_isE (i : Nat) {a D : Addr} {oe : Obj} {pn : List (Addr × Obj)} {n y : Str} {p p1 p2 pos : Pos} {cv : V} {b : Bool} (C : ExcC X.K D) (hz : Zc (.ref D) none oe) (hf : ∃ vs, oe.data = .fields vs) (hg : Gl X "isinstance") (hm : X.mg "isinstance" = none)
    {u : Value} {t : TE} (hcl : PE (X.suite a ((a, oe) :: pn)) (.Name y p2) t) (ht : ∀ σ H Q, Q cv H → t σ H Q) (hcv : ∀ w, RelV cv w → w = u) (hk : PySem.W.kitOne X.K (.ref D) u = some b)
    (hN : X.N[i]? = some n := by rfl) (hv : Vis X.env.scope n := by first | exact Or.inl rfl | exact Or.inr (Or.inl rfl) | exact Or.inr (Or.inr rfl)) (hd : (n == ("__debug__" : Str)) = false := by decide) (hcd : (n == ("__classdict__" : Str)) = false := by decide)
    (h1 : starEach (.Name n p1 :: [.Name y p2]) X.env = (false, eval (.Name n p1) X.env) :: starEach [.Name y p2] X.env := by rfl) (h2 : starEach (.Name y p2 :: []) X.env = (false, eval (.Name y p2) X.env) :: starEach [] X.env := by rfl) (hpl : (backTo pos (starEach [.Name y p2] X.env)).any (·.1) = false := by rfl) :
    DE (X.suite a ((a, oe) :: pn)) (.Call (.Name "isinstance" p) [.Name n p1, .Name y p2] [] pos) (eIsE i a b) := by
  refine ⟨_, pe_callB (X := X.suite a ((a, oe) :: pn)) (call_isE C hz hf) hg hm (by decide +kernel) (pa_cons (pe_var hN hv hd hcd) (pa_cons hcl pa_nil h2) h1) (he := h1) (hpl := hpl), fun σ H1 H ρ d Q s h k => ?_⟩
  unfold eIsE at h
  split at h
  · rename_i a' cn em
    split at h
    · rename_i ea
      cases h
      subst ea
      obtain ⟨v, eσ, rfl⟩ := s.at_ i _ em
      exact ⟨_, eσ, ht _ _ _ ⟨cv, u, b, rfl, hcv, hk, k _ H1 H (.refl s.sub) (.bl b)⟩⟩
    · cases h
  · cases h
end
end Dv

/-! instances of an own class: attributes read, methods that only read -/
namespace Dv
open PySem PySem.Spec PyProof.Rows L2
abbrev Fs := List (Str × PyData)
section
variable {K : PySem.W.Frag} {H1 H : Hp} {S : List Addr}
def IsObj (o : HO) : Prop := (∃ C dx fs, o = .ins C dx fs) ∨ ∃ a, o = .own a
theorem sqT_cutO (hS : ∀ a ∈ S, ∃ o, H1 a = some o ∧ IsObj o) {a : Addr} {xs : List V} (h : SqT K H1 a xs) : SqT K (cutH H1 S) a xs := by
  have e : ∀ o, ¬ IsObj o → H1 a = some o → cutH H1 S a = some o := fun o ho h => by
    unfold cutH
    rw [if_neg fun hm => ?_]
    · exact h
    · obtain ⟨o', q, z⟩ := hS a hm
      rw [h] at q
      cases q
      exact ho z
  rcases h with (h | ⟨o, h⟩) | h
  · exact .inl (.inl (e _ (fun z => by rcases z with ⟨_, _, _, z⟩ | ⟨_, z⟩ <;> cases z) h))
  · exact .inl (.inr ⟨o, e _ (fun z => by rcases z with ⟨_, _, _, z⟩ | ⟨_, z⟩ <;> cases z) h⟩)
  · exact .inr h
theorem sqL_cutO (hS : ∀ a ∈ S, ∃ o, H1 a = some o ∧ IsObj o) {a : Addr} {xs : List V} (h : SqL K H1 a xs) : SqL K (cutH H1 S) a xs := by
  have e : ∀ o, ¬ IsObj o → H1 a = some o → cutH H1 S a = some o := fun o ho h => by
    unfold cutH
    rw [if_neg fun hm => ?_]
    · exact h
    · obtain ⟨o', q, z⟩ := hS a hm
      rw [h] at q
      cases q
      exact ho z
  rcases h with (h | ⟨o, h⟩) | h
  · exact .inl (.inl (e _ (fun z => by rcases z with ⟨_, _, _, z⟩ | ⟨_, z⟩ <;> cases z) h))
  · exact .inl (.inr ⟨o, e _ (fun z => by rcases z with ⟨_, _, _, z⟩ | ⟨_, z⟩ <;> cases z) h⟩)
  · exact .inr h
mutual
theorem Den.cutO (hS : ∀ a ∈ S, ∃ o, H1 a = some o ∧ IsObj o) : ∀ (d : PyData) (v : V), Den K H1 v d → Den K (cutH H1 S) v d
  | .none, _, h => by cases h; exact .non
  | .bool b, _, h => by cases h; exact .bl b
  | .int i, _, h => by cases h; exact .int i
  | .str x, _, h => by cases h; exact .str x
  | .list ds, _, h => by cases h with | lst a b c => exact .lst (sqL_cutO hS a) b (DenL.cutO hS ds _ c)
  | .tuple ds, _, h => by cases h with | tup a b c => exact .tup (sqT_cutO hS a) b (DenL.cutO hS ds _ c)
  | .dict _, _, h => by cases h
theorem DenL.cutO (hS : ∀ a ∈ S, ∃ o, H1 a = some o ∧ IsObj o) : ∀ (ds : List PyData) (vs : List V), DenL K H1 vs ds → DenL K (cutH H1 S) vs ds
  | [], _, h => by cases h; exact .nil
  | d :: ds, _, h => by cases h with | cons a b => exact .cons (Den.cutO hS d _ a) (DenL.cutO hS ds _ b)
end
theorem fden_get {fsV : List (Str × V)} {fs : Fs} (h : FDen K H1 fsV fs) {f : Str} {d : PyData} (e : fs.lookup f = some d) : ∃ v, fsV.lookup f = some v ∧ Den K H1 v d := by
  induction h with
  | nil => cases e
  | @cons p q ps qs a t ih =>
    obtain ⟨e1, e2⟩ := a
    obtain ⟨n, v⟩ := p
    obtain ⟨n', d'⟩ := q
    have e1 : n = n' := e1
    subst e1
    rw [List.lookup_cons] at e ⊢
    cases hb : f == n with
    | true =>
      rw [hb] at e
      cases e
      exact ⟨v, rfl, e2⟩
    | false =>
      rw [hb] at e
      exact ih e
theorem fden_none {fsV : List (Str × V)} {fs : Fs} (h : FDen K H1 fsV fs) {f : Str} (e : fs.lookup f = none) : fsV.lookup f = none := by
  induction h with
  | nil => rfl
  | @cons p q ps qs a t ih =>
    obtain ⟨e1, e2⟩ := a
    obtain ⟨n, v⟩ := p
    obtain ⟨n', d'⟩ := q
    have e1 : n = n' := e1
    subst e1
    rw [List.lookup_cons] at e ⊢
    cases hb : f == n with
    | true =>
      rw [hb] at e
      cases e
    | false =>
      rw [hb] at e
      exact ih e
theorem fden_len {fsV : List (Str × V)} {fs : Fs} (h : FDen K H1 fsV fs) : fsV.length = fs.length := by
  induction h with
  | nil => rfl
  | cons a t ih => rw [List.length_cons, List.length_cons, ih]
theorem fden_cutO (hS : ∀ a ∈ S, ∃ o, H1 a = some o ∧ IsObj o) {fsV : List (Str × V)} {fs : Fs} (h : FDen K H1 fsV fs) : FDen K (cutH H1 S) fsV fs := Paired.mapP h fun p q ⟨e1, e2⟩ => ⟨e1, Den.cutO hS _ _ e2⟩
end
/-! ### an attribute -/
def fsOf (i : Nat) (CR : Addr) (ρ : En) : Option Fs := match ρ[i]? with
  | some (some (.fo C fs)) => if C = CR then some fs else none
  | some (some (.so C _ _ fs)) => if C = CR then some fs else none
  | some (some (.ob C fs)) => if C = CR then some fs else none
  | _ => none
theorem Sok.obj {K : PySem.W.Frag} {H1 H : Hp} {σ : L2.St} {ρ : En} (s : Sok K H1 H σ ρ) {i : Nat} {CR : Addr} {fs : Fs} (e : fsOf i CR ρ = some fs) : ∃ a dx fsV, σ[i]? = some (some (.ref a)) ∧ H a = some (.ins CR dx fsV) ∧ fs.length ≤ 900 ∧ FDen K H1 fsV fs := by
  unfold fsOf at e
  split at e
  · rename_i C fs' e0
    split at e
    · rename_i ec
      cases e
      subst ec
      obtain ⟨v, e1, a, dx, fsV, rfl, q1, q2, q3, q4⟩ := s.at_ i _ e0
      exact ⟨a, dx, fsV, e1, s.sub _ _ q1, q3, q4⟩
    · cases e
  · rename_i C a dx fs' e0
    split at e
    · rename_i ec
      cases e
      subst ec
      obtain ⟨v, e1, rfl, fsV, q1, q2, q3, q4, q5, q6⟩ := s.at_ i _ e0
      exact ⟨a, dx, fsV, e1, q1, q5, q6⟩
    · cases e
  · rename_i C fs' e0
    split at e
    · rename_i ec
      cases e
      subst ec
      obtain ⟨v, e1, a, dx, rfl, fsV, q1, q2, q3, q4, q5, q6⟩ := s.at_ i _ e0
      exact ⟨a, dx, fsV, e1, q1, q5, q6⟩
    · cases e
  · cases e
def eAt (i : Nat) (CR : Addr) (f : Str) : En → Option PyData := fun ρ => (fsOf i CR ρ).bind fun fs => fs.lookup f
section
variable {X : Cx} {e : Expr} {es : List Expr} {f : En → Option PyData} {fs : En → Option (List PyData)} {pos p apos : Pos} {x m fn : Str} {CR : Addr}
theorem de_at (i : Nat) {fld : Str} (hC : Cls X.K CR) (hF : NoAttr X.K CR fld) (hN : X.N[i]? = some x := by rfl) (hv : Vis X.env.scope x := by first | exact Or.inl rfl | exact Or.inr (Or.inl rfl) | exact Or.inr (Or.inr rfl)) (hd : (x == ("__debug__" : Str)) = false := by decide)
    (hcd : (x == ("__classdict__" : Str)) = false := by decide) (hb : attributeBase (.Name x p) fld X.env (eval (.Name x p) X.env) = eval (.Name x p) X.env := by rfl) : DE X (.Attribute (.Name x p) fld pos) (eAt i CR fld) := by
  refine ⟨_, pe_fld (pe_var hN hv hd hcd) hb, fun σ H1 H ρ d Q s h k => ?_⟩
  obtain ⟨fl, h1, h2⟩ := bind_some h
  obtain ⟨a, dx, fsV, e1, q1, q2, q3⟩ := s.obj h1
  obtain ⟨v, e2, dv⟩ := fden_get q3 h2
  exact ⟨_, e1, a, CR, dx, fsV, v, rfl, q1, hC, hF, e2, k v H1 H (.refl s.sub) dv⟩
/-! ### methods and defs that only read the instance -/
/-- the spec: the instance first, then n data -/
def spO (K : PySem.W.Frag) (CR : Addr) (n : Nat) (g : Fs → List PyData → Option PyData) : Sp := fun vs H Q _ => vs.length = n + 1 ∧ ∃ (H1 : Hp) (a dx : Addr) (fsV : List (Str × V)) (fs : Fs) (args : List V) (ds : List PyData) (d : PyData), vs = .ref a :: args ∧ Same H1 H ∧ H1 a = some (.ins CR dx fsV) ∧ H1 dx = some (.own a) ∧ fs.length ≤ 900 ∧ FDen K H1 fsV fs ∧ DenL K H1 args ds ∧ g fs ds = some d ∧
  ∀ v H1' H', Ext H1 H H1' H' → Den K H1' v d → Q v H'
def fnO (CR : Addr) (n m : Nat) (f : En → Option Out) (fs : Fs) (ds : List PyData) : Option PyData := if ds.length = n then outD (f (some (.fo CR fs) :: (ds.map (fun d => some (.im d)) ++ List.replicate m none))) else none
theorem sok_startO {K : PySem.W.Frag} {H1 H : Hp} {vs : List V} {ds : List PyData} {m : Nat} {a : Addr} {w : W} (s : Same H1 H) (dl : DenL K H1 vs ds) (q : WOk K H1 H (.ref a) w) : Sok K H1 H (some (V.ref a) :: (vs.map some ++ List.replicate m none)) (some w :: (ds.map (fun d => some (.im d)) ++ List.replicate m none)) := by
  have s0 := sok_start (m := m) s dl
  refine ⟨s, by rw [List.length_cons, List.length_cons, s0.len], fun j u e => ?_, fun j l u u' v1 v2 b e1 e2 f1 f2 m1 m2 => ?_⟩
  · cases j with
    | zero =>
      cases e
      exact ⟨_, rfl, q⟩
    | succ j => exact s0.at_ j u e
  · have no : ∀ {j u v}, (ds.map (fun d => some (W.im d)) ++ List.replicate m none)[j]? = some (some u) → Owned H v b u → False := fun {j u v} e o => by
      rcases List.mem_append.mp (List.mem_of_getElem? e) with z | z
      · obtain ⟨d, _, z⟩ := List.mem_map.mp z
        cases z
        exact o
      · cases List.eq_of_mem_replicate z
    cases j with
    | zero =>
      cases l with
      | zero => rfl
      | succ l => exact (no e2 m2).elim
    | succ j => exact (no e1 m1).elim
end
section
variable {P : Program} {w : World} {K : PySem.W.Frag} {mg : Str → Option Value} {base : Heap} {CR : Addr}
theorem okO {x q : Str} {st : Stmt} {f : Addr} {fd : FuncData} {N ps : List Str} {k : Nat} {fb : En → Option Out} (n m : Nat) (F : Fun K x q st f fd) (S : FnScope N ps (defScope st)) (hn : ps.length = n + 1) (hNm : N.length = n + 1 + m)
    (body : ∀ (cdv : Value) (A : Around) (outer : List Env) (s : Shared) (H : Hp) (E : XK), Room k (A.deeper (envOfC q (defScope st) s.heap.objs.size f cdv)) → DSs (cxOf CX0 P w K mg base N q (defScope st) f cdv A outer s H E).nox (defBody st) fb) :
    FnOk P w K mg base CX0 (k + 1) f fd ps (spO K CR n (fnO CR n m fb)) := by
  refine F.ok S (fun vs H Q E h => h.1.trans hn.symm) (fun cdv A outer s H vs Q E hr h => ?_)
  obtain ⟨hl, H1, a, dx, fsV, fs, args, ds, d, rfl, sm, ha, hd, hfl, fd', dl, e, k1⟩ := h
  obtain ⟨t, p, q⟩ := body cdv A outer s H E hr
  unfold fnO at e
  have hds : ds.length = n := by rw [← dl.length]; simpa using hl
  rw [if_pos hds] at e
  refine ⟨t, p, ?_⟩
  have hst : L2.start N (V.ref a :: args) = some (V.ref a) :: (args.map some ++ List.replicate m none) := by
    unfold L2.start
    rw [show N.length - (V.ref a :: args).length = m by rw [List.length_cons, dl.length]; omega]
    rfl
  rw [hst]
  cases ho : fb (some (.fo CR fs) :: (ds.map (fun d => some (.im d)) ++ List.replicate m none)) with
  | none => rw [ho] at e; cases e
  | some o =>
    rw [ho] at e
    have sk := sok_startO (m := m) (w := .fo CR fs) sm dl ⟨a, dx, fsV, rfl, ha, hd, hfl, fd'⟩
    have s0 : Sst K H1 H H1 H (some (V.ref a) :: (args.map some ++ List.replicate m none)) (some (.fo CR fs) :: (ds.map (fun d => some (.im d)) ++ List.replicate m none)) := by
      refine ⟨sk, sm, .refl sm, fun i w v b e _ o => ?_⟩
      cases i with
      | zero => cases e; exact o.elim
      | succ i =>
        rcases List.mem_append.mp (List.mem_of_getElem? (show (ds.map (fun d => some (W.im d)) ++ List.replicate m none)[i]? = _ from e)) with z | z
        · obtain ⟨d, _, z⟩ := List.mem_map.mp z
          cases z
          exact o.elim
        · cases List.eq_of_mem_replicate z
    refine q H1 H H1 H _ _ o _ s0 ho ?_
    cases o with
    | rt d' =>
      cases e
      exact fun v H1' H' x dv => k1 v H1' H' x dv
    | nx ρ =>
      cases e
      exact fun σ H1' H' _ s => k1 .non H1' H' s.fr .non
    | bk ρ => cases e
    | ct ρ => cases e
/-- a method that only reads -/
structure CalMO (P : Program) (w : World) (K : PySem.W.Frag) (mg : Str → Option Value) (base : Heap) (CR : Addr) (k : Nat) (m : Str) (n : Nat) (g : Fs → List PyData → Option PyData) : Prop where
  ex : ∃ (f : Addr) (fd : FuncData) (ps : List Str), FnOk P w K mg base CX0 k f fd ps (spO K CR n g) ∧ Meth K CR m f ∧ Binds K fd ps []
/-- a def that only reads -/
structure CalFO (P : Program) (w : World) (K : PySem.W.Frag) (mg : Str → Option Value) (base : Heap) (CR : Addr) (k : Nat) (x : Str) (n : Nat) (g : Fs → List PyData → Option PyData) : Prop where
  ex : ∃ (f : Addr) (fd : FuncData) (ps : List Str), FnOk P w K mg base CX0 k f fd ps (spO K CR n g) ∧ mg x = some (.ref f) ∧ PySem.W.keepIn K (.ref f) = true ∧ Binds K fd ps []
end
section
variable {X : Cx} {e : Expr} {es : List Expr} {f : En → Option PyData} {fs : En → Option (List PyData)} {pos p apos : Pos} {x m fn : Str} {CR : Addr} {k j n : Nat} {g : Fs → List PyData → Option PyData}
/-- the instance of a slot is stable there -/
def foOf (i : Nat) (CR : Addr) (ρ : En) : Option Fs := match ρ[i]? with
  | some (some (.fo C fs)) => if C = CR then some fs else none
  | _ => none
theorem Sok.foObj {K : PySem.W.Frag} {H1 H : Hp} {σ : L2.St} {ρ : En} (s : Sok K H1 H σ ρ) {i : Nat} {CR : Addr} {fs : Fs} (e : foOf i CR ρ = some fs) : ∃ a dx fsV, σ[i]? = some (some (.ref a)) ∧ H1 a = some (.ins CR dx fsV) ∧ H1 dx = some (.own a) ∧ fs.length ≤ 900 ∧ FDen K H1 fsV fs := by
  unfold foOf at e
  split at e
  · rename_i C fs' e0
    split at e
    · rename_i ec
      cases e
      subst ec
      obtain ⟨v, e1, a, dx, fsV, rfl, q1, q2, q3, q4⟩ := s.at_ i _ e0
      exact ⟨a, dx, fsV, e1, q1, q2, q3, q4⟩
    · cases e
  · cases e
/-- o.m(), which only reads -/
def eMt (i : Nat) (CR : Addr) (m : Str) (g : Fs → List PyData → Option PyData) : En → Option PyData := fun ρ => (foOf i CR ρ).bind fun fl => if fl.lookup m = none then g fl [] else none
theorem de_meth (i : Nat) {pl : Sem Bool} (hC : Cls X.K CR) (c : CalMO X.prog X.w X.K X.mg X.base CR k m 0 g) (hr : Room j X.A) (hk : k ≤ j) (hN : X.N[i]? = some x := by rfl) (hv : Vis X.env.scope x := by first | exact Or.inl rfl | exact Or.inr (Or.inl rfl) | exact Or.inr (Or.inr rfl)) (hd : (x == ("__debug__" : Str)) = false := by decide)
    (hcd : (x == ("__classdict__" : Str)) = false := by decide)
    (ht : eval (.Call (.Attribute (.Name x p) m apos) [] [] pos) X.env = (do
      let ov ← eval (.Name x p) X.env
      standAt apos.atName
      let (f, first) ← holding [ov] (getMethod ov m pl)
      callWith pos f first (backTo pos (starEach [] X.env)) (backToKw pos (keywordEach [] X.env))) := by rfl) : DE X (.Call (.Attribute (.Name x p) m apos) [] [] pos) (eMt i CR m g) := by
  obtain ⟨f, fd, ps, F, hm, b⟩ := c.ex
  refine ⟨_, pe_meth0 (E := E0) (pe_var hN hv hd hcd) hC hm F (hr.mono hk) b .nil pass0 ht, fun σ H1 H ρ d Q s h k => ?_⟩
  obtain ⟨fl, h1, h⟩ := bind_some h
  obtain ⟨h2, h⟩ : fl.lookup m = none ∧ g fl [] = some d := by
    split at h
    · exact ⟨by assumption, h⟩
    · cases h
  obtain ⟨a, dx, fsV, e1, q1, q2, q3, q4⟩ := s.foObj h1
  refine ⟨_, e1, a, dx, fsV, rfl, s.sub _ _ q1, fden_none q4 h2, ?_⟩
  exact ⟨rfl, H1, a, dx, fsV, fl, [], [], d, rfl, s.sub, q1, q2, q3, q4, .nil, h, fun v H1' H' x dv => k v H1' H' x dv⟩
/-- fn(o, ..), which only reads o -/
def eFo (i : Nat) (CR : Addr) (g : Fs → List PyData → Option PyData) (fs : En → Option (List PyData)) : En → Option PyData := fun ρ => (foOf i CR ρ).bind fun fl => (fs ρ).bind fun ds => g fl ds
theorem de_fnO (i : Nat) (c : CalFO X.prog X.w X.K X.mg X.base CR k fn n g) (hr : Room j X.A) (hk : k ≤ j) (hg : Gl X fn) (ha : DA X es fs) (hn : ∀ ρ ds, fs ρ = some ds → ds.length = n) (hN : X.N[i]? = some x := by rfl) (hv : Vis X.env.scope x := by first | exact Or.inl rfl | exact Or.inr (Or.inl rfl) | exact Or.inr (Or.inr rfl)) (hd : (x == ("__debug__" : Str)) = false := by decide)
    (hcd : (x == ("__classdict__" : Str)) = false := by decide) (hdb : (fn == ("__debug__" : Str)) = false := by decide) {p0 : Pos}
    (he : starEach (.Name x p0 :: es) X.env = (false, eval (.Name x p0) X.env) :: starEach es X.env := by rfl) (hpl : (backTo pos (starEach es X.env)).any (·.1) = false := by rfl) :
    DE X (.Call (.Name fn p) (.Name x p0 :: es) [] pos) (eFo i CR g fs) := by
  obtain ⟨f, fd, ps, F, hm, kp, b⟩ := c.ex
  obtain ⟨t, pt, q⟩ := ha
  refine ⟨_, pe_call F (hr.mono hk) hg hm kp b .nil pass0 (pa_cons (pe_var hN hv hd hcd) pt he) hdb he hpl, fun σ H1 H ρ d Q s h k => ?_⟩
  obtain ⟨fl, h1, h⟩ := bind_some h
  obtain ⟨ds, h2, h⟩ := bind_some h
  obtain ⟨a, dx, fsV, e1, q1, q2, q3, q4⟩ := s.foObj h1
  refine ⟨_, e1, q σ H1 H ρ ds _ s h2 fun vs H1' H' x1 dl => ?_⟩
  show spO X.K CR n g ((V.ref a :: vs) ++ []) H' Q E0
  rw [List.append_nil]
  exact ⟨by rw [List.length_cons, dl.length, hn _ _ h2], H1', a, dx, fsV, fl, vs, ds, d, rfl, x1.sub, x1.st _ _ q1, x1.st _ _ q2, q3, q4.mono x1.st, dl, h, fun v H2 H2' x2 dv => k v H2 H2' (x1.trans x2) dv⟩
/-! ### an owned instance, read -/
def frO (i : Nat) (ρ : En) : En := match ρ[i]? with
  | some (some (.ob C fs)) => ρ.set i (some (.fo C fs))
  | some (some (.so C _ _ fs)) => ρ.set i (some (.fo C fs))
  | _ => ρ
def isOb (i : Nat) (ρ : En) : Bool := match ρ[i]? with
  | some (some (.ob _ _)) => true
  | some (some (.so _ _ _ _)) => true
  | _ => false
def eOb (i : Nat) (f : En → Option PyData) : En → Option PyData := fun ρ => if isOb i ρ = true then f (frO i ρ) else none
theorem Sok.frO {K : PySem.W.Frag} {H1 H : Hp} {σ : L2.St} {ρ : En} (s : Sok K H1 H σ ρ) {i : Nat} (hi : isOb i ρ = true) : ∃ S, (∀ b ∈ S, H1 b = none) ∧ (∀ b ∈ S, ∃ o, H b = some o ∧ IsObj o) ∧ Sok K (addH H1 H S) H σ (frO i ρ) := by
  obtain ⟨C, fs, w, e0, a, dx, eσ, hI, hO, hfr⟩ : ∃ (C : Addr) (fs : Fs) (w : W), ρ[i]? = some (some w) ∧ ∃ a dx, σ[i]? = some (some (.ref a)) ∧ InsOk K H1 H C a dx fs ∧ (∀ b, b = a ∨ b = dx → Owned H (.ref a) b w) ∧ Dv.frO i ρ = ρ.set i (some (.fo C fs)) := by
    unfold isOb at hi
    split at hi
    · rename_i C fs e0
      obtain ⟨v, e1, a, dx, rfl, q⟩ := s.at_ i _ e0
      obtain ⟨fsV, q1, _⟩ := id q
      exact ⟨C, fs, _, e0, a, dx, e1, q, fun b hb => by
        rcases hb with rfl | rfl
        · exact .inl rfl
        · exact .inr ⟨a, _, fsV, rfl, q1, rfl⟩, by unfold Dv.frO; rw [e0]⟩
    · rename_i C a dx fs e0
      obtain ⟨v, e1, rfl, q⟩ := s.at_ i _ e0
      exact ⟨C, fs, _, e0, a, dx, e1, q, fun b hb => ⟨rfl, hb⟩, by unfold Dv.frO; rw [e0]⟩
    · cases hi
  obtain ⟨fsV, q1, q2, q3, q4, q5, q6⟩ := hI
  have hn : ∀ b ∈ [a, dx], H1 b = none := fun b hb => by
    simp only [List.mem_cons, List.not_mem_nil, or_false] at hb
    rcases hb with rfl | rfl
    · exact q3
    · exact q4
  have sm := addH_same (H := H) hn
  have hl : i < ρ.length := (List.getElem?_eq_some_iff.mp e0).1
  refine ⟨[a, dx], hn, fun b hb => ?_, ?_⟩
  · simp only [List.mem_cons, List.not_mem_nil, or_false] at hb
    rcases hb with rfl | rfl
    · exact ⟨_, q1, .inl ⟨_, _, _, rfl⟩⟩
    · exact ⟨_, q2, .inr ⟨_, rfl⟩⟩
  · rw [hfr]
    have cs : ∀ {j : Nat} {u}, (ρ.set i (some (W.fo C fs)))[j]? = some (some u) → (i = j ∧ u = .fo C fs) ∨ (i ≠ j ∧ ρ[j]? = some (some u)) := fun {j u} e => by
      by_cases hj : i = j
      · subst hj
        rw [List.getElem?_set_self hl] at e
        cases e
        exact .inl ⟨rfl, rfl⟩
      · rw [List.getElem?_set_ne hj] at e
        exact .inr ⟨hj, e⟩
    have aS : ∀ b ∈ [a, dx], addH H1 H [a, dx] b = H b := fun b hb => by unfold addH; rw [if_pos hb]
    refine ⟨addH_sub s.sub, by rw [List.length_set]; exact s.len, fun j u e => ?_, fun j l u u' v1 v2 b e1 e2 f1 f2 o1 o2 => ?_⟩
    · rcases cs e with ⟨rfl, rfl⟩ | ⟨hj, e⟩
      · exact ⟨_, eσ, a, dx, fsV, rfl, (aS a (by simp)).trans q1, (aS dx (by simp)).trans q2, q5, q6.mono sm⟩
      · obtain ⟨v, e1, q⟩ := s.at_ j u e
        refine ⟨v, e1, q.stab sm fun b ob hb => hj ?_⟩
        simp only [List.mem_cons, List.not_mem_nil, or_false] at hb
        exact s.inj i j w u _ v b e0 e eσ e1 (hO b hb) ob
    · rcases cs e1 with ⟨rfl, rfl⟩ | ⟨hj, e1⟩
      · exact o1.elim
      · rcases cs e2 with ⟨rfl, rfl⟩ | ⟨hk, e2⟩
        · exact o2.elim
        · exact s.inj j l u u' v1 v2 b e1 e2 f1 f2 o1 o2
theorem de_ob (i : Nat) (he : DE X e f) : DE X e (eOb i f) := by
  obtain ⟨t, p, q⟩ := he
  refine ⟨t, p, fun σ H1 H ρ d Q s h k => ?_⟩
  unfold eOb at h
  split at h
  · rename_i hi
    obtain ⟨S, s1, s2, s3⟩ := s.frO hi
    refine q σ (addH H1 H S) H _ d Q s3 h fun v H1' H' x dv => ?_
    refine k v _ H' (ext_cut s.sub s1 x) (Den.cutO (fun a ha => ?_) d v dv)
    obtain ⟨o, ho, hi⟩ := s2 a ha
    exact ⟨o, x.st a _ (by unfold addH; rw [if_pos ha]; exact ho), hi⟩
  · cases h
end
end Dv

/-! instances of an own class: attributes stored, methods that change the instance -/
namespace Dv
open PySem PySem.Spec PyProof.Rows L2
/-! ### self.f = e -/
def putO (f : Str) (d : PyData) : Fs → Fs
  | [] => [(f, d)]
  | (g, x) :: r => if g = f then (g, d) :: r else (g, x) :: putO f d r
theorem putO_len (f : Str) (d : PyData) : ∀ fs : Fs, (putO f d fs).length ≤ fs.length + 1
  | [] => by simp [putO]
  | (g, x) :: r => by
    unfold putO
    split
    · simp
    · have := putO_len f d r
      simp only [List.length_cons]
      omega
section
variable {K : PySem.W.Frag} {H1 H : Hp}
theorem fden_put {f : Str} {v : V} {d : PyData} (q : Den K H1 v d) {fsV : List (Str × V)} {fs : Fs} (h : FDen K H1 fsV fs) : FDen K H1 (putF f v fsV) (putO f d fs) := by
  induction h with
  | nil => exact .cons ⟨rfl, q⟩ .nil
  | @cons p z ps qs a t ih =>
    obtain ⟨n, v'⟩ := p
    obtain ⟨n', d'⟩ := z
    obtain ⟨e1, e2⟩ := a
    have e1 : n = n' := e1
    subst e1
    unfold putF putO
    by_cases hn : n = f
    · rw [if_pos hn, if_pos hn]
      exact .cons ⟨rfl, q⟩ t
    · rw [if_neg hn, if_neg hn]
      exact .cons ⟨rfl, e2⟩ ih
end
theorem RowsOk.keep {K : PySem.W.Frag} {H1 H H' : Hp} {ks : List Addr} {rows : List (List PyData)} (h : RowsOk K H1 H ks rows) (k : ∀ c ∈ ks, ∀ o, H c = some o → H' c = some o) : RowsOk K H1 H' ks rows := by
  induction h with
  | nil => exact .nil
  | cons x t ih =>
    obtain ⟨vs, h1, h2⟩ := x
    exact .cons ⟨vs, k _ (List.mem_cons_self ..) _ h1, h2⟩ (ih fun c hc => k c (List.mem_cons_of_mem _ hc))
def setO (i : Nat) (fs : Fs) (ρ : En) : Option En := match ρ[i]? with
  | some (some (.so C a dx _)) => some (ρ.set i (some (.so C a dx fs)))
  | some (some (.ob C _)) => some (ρ.set i (some (.ob C fs)))
  | _ => none
def obOf (i : Nat) (CR : Addr) (ρ : En) : Option Fs := match ρ[i]? with
  | some (some (.so C _ _ fs)) => if C = CR then some fs else none
  | some (some (.ob C fs)) => if C = CR then some fs else none
  | _ => none
/-- the instance of a slot is changed to have the attributes fs', by any heap that keeps the rest -/
theorem Sst.obj {K : PySem.W.Frag} {B1 B H1 H : Hp} {σ : L2.St} {ρ : En} (s : Sst K B1 B H1 H σ ρ) {i : Nat} {CR : Addr} {fs : Fs} (e : obOf i CR ρ = some fs) : ∃ a dx, σ[i]? = some (some (.ref a)) ∧ InsOk K H1 H CR a dx fs ∧
    ∀ H1' H' fs' ρ', setO i fs' ρ = some ρ' → Ext H1 (cutH H [a, dx]) H1' H' → InsOk K H1' H' CR a dx fs' → Sst K B1 B H1' H' σ ρ' := by
  obtain ⟨w, w', e0, a, dx, eσ, hI, hO, hset⟩ : ∃ (w : W) (w' : Fs → W), ρ[i]? = some (some w) ∧ ∃ a dx, σ[i]? = some (some (.ref a)) ∧ InsOk K H1 H CR a dx fs ∧ ((∀ b, b = a ∨ b = dx → Owned H (.ref a) b w) ∧ ∀ H1' H' fs', InsOk K H1' H' CR a dx fs' → WOk K H1' H' (.ref a) (w' fs') ∧ ∀ b, Owned H' (.ref a) b (w' fs') → b = a ∨ b = dx) ∧ ∀ fs', setO i fs' ρ = some (ρ.set i (some (w' fs'))) := by
    unfold obOf at e
    split at e
    · rename_i C a dx fs0 e0
      split at e
      · rename_i ec
        cases e
        subst ec
        obtain ⟨v, e1, rfl, q⟩ := s.sok.at_ i _ e0
        exact ⟨_, fun fs' => .so C a dx fs', e0, a, dx, e1, q, ⟨fun b hb => ⟨rfl, hb⟩, fun H1' H' fs' q' => ⟨⟨rfl, q'⟩, fun b hb => hb.2⟩⟩, fun fs' => by unfold setO; rw [e0]⟩
      · cases e
    · rename_i C fs0 e0
      split at e
      · rename_i ec
        cases e
        subst ec
        obtain ⟨v, e1, a, dx, rfl, q⟩ := s.sok.at_ i _ e0
        obtain ⟨fsV, q1, _⟩ := id q
        refine ⟨_, fun fs' => .ob C fs', e0, a, dx, e1, q, ⟨fun b hb => ?_, fun H1' H' fs' q' => ⟨⟨a, dx, rfl, q'⟩, fun b hb => ?_⟩⟩, fun fs' => by unfold setO; rw [e0]⟩
        · rcases hb with rfl | rfl
          · exact .inl rfl
          · exact .inr ⟨a, _, fsV, rfl, q1, rfl⟩
        · rcases hb with hb | ⟨a', dx', fsV', hb, e', rfl⟩
          · cases hb
            exact .inl rfl
          · cases hb
            obtain ⟨fsV2, q2, _⟩ := q'
            rw [q2] at e'
            cases e'
            exact .inr rfl
      · cases e
    · cases e
  obtain ⟨hO1, hO2⟩ := hO
  refine ⟨a, dx, eσ, hI, fun H1' H' fs' ρ' hs x q => ?_⟩
  rw [hset fs'] at hs
  cases hs
  have hl : i < ρ.length := (List.getElem?_eq_some_iff.mp e0).1
  obtain ⟨fsV, q1, q2, q3, q4, q5, q6⟩ := hI
  obtain ⟨fsV', p1, p2, p3, p4, p5, p6⟩ := id q
  obtain ⟨wk, wo⟩ := hO2 H1' H' fs' q
  have nB : ∀ b, b = a ∨ b = dx → B b = none := fun b hb => s.own i w _ b e0 eσ (hO1 b hb)
  have cutO : ∀ {b o}, b ≠ a → b ≠ dx → H b = some o → cutH H [a, dx] b = some o := fun {b o} h1 h2 h => by
    unfold cutH
    rw [if_neg (by simp [h1, h2])]
    exact h
  have far : ∀ {j : Nat} {u v b}, i ≠ j → ρ[j]? = some (some u) → σ[j]? = some (some v) → Owned H v b u → b ≠ a ∧ b ≠ dx := fun {j u v b} hj e2 f2 o2 =>
    ⟨fun h => hj (s.sok.inj i j w u _ v b e0 e2 eσ f2 (hO1 b (.inl h)) o2), fun h => hj (s.sok.inj i j w u _ v b e0 e2 eσ f2 (hO1 b (.inr h)) o2)⟩
  have cs : ∀ {j : Nat} {u}, (ρ.set i (some (w' fs')))[j]? = some (some u) → (i = j ∧ u = w' fs') ∨ (i ≠ j ∧ ρ[j]? = some (some u)) := fun {j u} e => by
    by_cases hj : i = j
    · subst hj
      rw [List.getElem?_set_self hl] at e
      cases e
      exact .inl ⟨rfl, rfl⟩
    · rw [List.getElem?_set_ne hj] at e
      exact .inr ⟨hj, e⟩
  -- the other slots, in the heap without the instance
  have sub0 : Same H1 (cutH H [a, dx]) := fun b o h => by
    have h1 : b ≠ a := fun z => by rw [z, q3] at h; cases h
    have h2 : b ≠ dx := fun z => by rw [z, q4] at h; cases h
    exact cutO h1 h2 (s.sok.sub _ _ h)
  have s0 : Sok K H1 (cutH H [a, dx]) σ (ρ.set i none) := by
    have c0 : ∀ {j : Nat} {u}, (ρ.set i none)[j]? = some (some u) → i ≠ j ∧ ρ[j]? = some (some u) := fun {j u} e => by
      by_cases hj : i = j
      · subst hj
        rw [List.getElem?_set_self hl] at e
        cases e
      · rw [List.getElem?_set_ne hj] at e
        exact ⟨hj, e⟩
    have bk : ∀ {j : Nat} {u v b}, i ≠ j → ρ[j]? = some (some u) → σ[j]? = some (some v) → Owned (cutH H [a, dx]) v b u → Owned H v b u := fun {j u v b} hj e2 f2 o2 => by
      cases u with
      | im d => exact o2
      | xo a c => exact o2
      | fo C fs => exact o2
      | so C a dx fs => exact o2
      | ml d => exact o2
      | md d => exact o2
      | ob C fs =>
        rcases o2 with o2 | ⟨a', dx', fsV', h1, h2, h3⟩
        · exact .inl o2
        · unfold cutH at h2
          split at h2
          · cases h2
          · exact .inr ⟨a', dx', fsV', h1, h2, h3⟩
      | mm rows =>
        rcases o2 with o2 | ⟨a', ks, h1, h2, h3⟩
        · exact .inl o2
        · unfold cutH at h2
          split at h2
          · cases h2
          · exact .inr ⟨a', ks, h1, h2, h3⟩
    refine ⟨sub0, by rw [List.length_set]; exact s.sok.len, fun j u e2 => ?_, fun j l u u' v1 v2 b e1 e2 f1 f2 o1 o2 => ?_⟩
    · obtain ⟨hj, e2⟩ := c0 e2
      obtain ⟨v, f2, z⟩ := s.sok.at_ j u e2
      refine ⟨v, f2, ?_⟩
      have fr : ∀ b, Owned H v b u → b ≠ a ∧ b ≠ dx := fun b ob => far hj e2 f2 ob
      cases u with
      | im d => exact z
      | xo a c => exact z
      | fo C fs => exact z
      | so C a2 dx2 fs2 =>
        obtain ⟨z0, fsV2, z1, z2, z3⟩ := z
        have n1 := fr a2 ⟨z0, .inl rfl⟩
        have n2 := fr dx2 ⟨z0, .inr rfl⟩
        exact ⟨z0, fsV2, cutO n1.1 n1.2 z1, cutO n2.1 n2.2 z2, z3⟩
      | ob C fs2 =>
        obtain ⟨a2, dx2, z0, fsV2, z1, z2, z3⟩ := z
        have n1 := fr a2 (.inl z0)
        have n2 := fr dx2 (.inr ⟨a2, dx2, fsV2, z0, z1, rfl⟩)
        exact ⟨a2, dx2, z0, fsV2, cutO n1.1 n1.2 z1, cutO n2.1 n2.2 z2, z3⟩
      | ml ds =>
        obtain ⟨b, vs, rfl, z1, z2⟩ := z
        have n1 := fr b rfl
        exact ⟨b, vs, rfl, cutO n1.1 n1.2 z1, z2⟩
      | md ds =>
        obtain ⟨b, vs, rfl, z1, z2⟩ := z
        have n1 := fr b rfl
        exact ⟨b, vs, rfl, cutO n1.1 n1.2 z1, z2⟩
      | mm rows =>
        obtain ⟨b, ks, rfl, z1, z2, z3, z4, z5, z6⟩ := z
        have n1 := fr b (.inl rfl)
        refine ⟨b, ks, rfl, cutO n1.1 n1.2 z1, z2, z3, z4, z5, ?_⟩
        have hk : ∀ c ∈ ks, c ≠ a ∧ c ≠ dx := fun c hc => fr c (.inr ⟨b, ks, rfl, z1, hc⟩)
        exact z6.keep fun c hc o h => cutO (hk c hc).1 (hk c hc).2 h
    · obtain ⟨hj, e1⟩ := c0 e1
      obtain ⟨hk, e2⟩ := c0 e2
      exact s.sok.inj j l u u' v1 v2 b e1 e2 f1 f2 (bk hj e1 f1 o1) (bk hk e2 f2 o2)
  have s1 := s0.ext x
  have c1 : ∀ {j : Nat} {u}, i ≠ j → ρ[j]? = some (some u) → (ρ.set i none)[j]? = some (some u) := fun {j u} hj e => by rw [List.getElem?_set_ne hj]; exact e
  -- what they own is not the instance's, and was theirs
  have far1 : ∀ {j : Nat} {u v b}, i ≠ j → ρ[j]? = some (some u) → σ[j]? = some (some v) → Owned H' v b u → (b ≠ a ∧ b ≠ dx) ∧ Owned H v b u := fun {j u v b} hj e2 f2 o2 => by
    obtain ⟨v', g2, z⟩ := s0.at_ j u (c1 hj e2)
    rw [f2] at g2
    cases g2
    have sm := x.same sub0
    have o3 := o2.back z fun c o _ h => sm _ _ h
    obtain ⟨o, ho, _⟩ := o3.at_ z
    have hn : b ≠ a ∧ b ≠ dx := by
      refine ⟨fun h => ?_, fun h => ?_⟩
      · rw [h] at ho; unfold cutH at ho; rw [if_pos (by simp)] at ho; cases ho
      · rw [h] at ho; unfold cutH at ho; rw [if_pos (by simp)] at ho; cases ho
    refine ⟨hn, ?_⟩
    obtain ⟨v2, g3, z2⟩ := s.sok.at_ j u e2
    rw [f2] at g3
    cases g3
    refine o3.back z2 fun c o hv hc => ?_
    have oc : Owned H v c u := by
      cases u with
      | im d => exact o3
      | xo a c => exact o3
      | fo C fs => exact o3
      | so C a' dx fs =>
        refine ⟨o3.1, .inl ?_⟩
        have e := hv.symm.trans o3.1
        cases e
        rfl
      | ob C fs => exact .inl hv
      | ml d => exact hv
      | md d => exact hv
      | mm rows => exact .inl hv
    have n1 := far hj e2 f2 oc
    exact cutO n1.1 n1.2 hc
  refine ⟨⟨x.sub, by rw [List.length_set]; exact s.sok.len, fun j u e2 => ?_, fun j l u u' v1 v2 b e1 e2 f1 f2 o1 o2 => ?_⟩, s.bs, ⟨s.fr.st.trans x.st, x.sub, fun b o z y => ?_⟩, fun j u v b e2 f2 o2 => ?_⟩
  · rcases cs e2 with ⟨rfl, rfl⟩ | ⟨hj, e2⟩
    · exact ⟨_, eσ, wk⟩
    · exact s1.at_ j u (c1 hj e2)
  · rcases cs e1 with ⟨rfl, rfl⟩ | ⟨hj, e1⟩
    · rcases cs e2 with ⟨rfl, rfl⟩ | ⟨hk, e2⟩
      · rfl
      · rw [eσ] at f1
        cases f1
        have n2 := (far1 hk e2 f2 o2).1
        rcases wo b o1 with h | h
        · exact (n2.1 h).elim
        · exact (n2.2 h).elim
    · rcases cs e2 with ⟨q1, q2⟩ | ⟨hk, e2⟩
      · subst q1
        subst q2
        rw [eσ] at f2
        cases f2
        have n2 := (far1 hj e1 f1 o1).1
        rcases wo b o2 with h | h
        · exact (n2.1 h).elim
        · exact (n2.2 h).elim
      · exact s1.inj j l u u' v1 v2 b (c1 hj e1) (c1 hk e2) f1 f2 o1 o2
  · obtain ⟨z1, z2⟩ := s.fr.fr b o z y
    have h1 : b ≠ a := fun h => by rw [nB b (.inl h)] at z; cases z
    have h2 : b ≠ dx := fun h => by rw [nB b (.inr h)] at z; cases z
    exact x.fr b o (cutO h1 h2 z2) z1
  · rcases cs e2 with ⟨rfl, rfl⟩ | ⟨hj, e2⟩
    · rw [eσ] at f2
      cases f2
      exact nB b (wo b o2)
    · exact s.own j u v b e2 f2 (far1 hj e2 f2 o2).2
end Dv

/-! methods that change the instance: their bodies, their calls -/
namespace Dv
open PySem PySem.Spec PyProof.Rows L2
theorem of_ite {α : Type} {c : Prop} [Decidable c] {o : Option α} {x : α} (h : (if c then o else none) = some x) : c ∧ o = some x := by
  split at h
  · exact ⟨by assumption, h⟩
  · cases h
section
variable {X : Cx} {e : Expr} {es : List Expr} {f fe : En → Option PyData} {fs : En → Option (List PyData)} {pos p p' apos : Pos} {x m : Str} {CR : Addr} {W : WX}
def sPut (i : Nat) (CR : Addr) (fld : Str) (fe : En → Option PyData) : En → Option Out := fun ρ => (fe ρ).bind fun d => (obOf i CR ρ).bind fun fs => if fs.length < 900 then (setO i (putO fld d fs) ρ).map Out.nx else none
theorem ds_put (i : Nat) {fld : Str} (hC : Cls X.K CR) (hF : NoAttr X.K CR fld) (he : DE X e fe) (hN : X.N[i]? = some x := by rfl) (hv : Vis X.env.scope x := by first | exact Or.inl rfl | exact Or.inr (Or.inl rfl) | exact Or.inr (Or.inr rfl)) (hd : (x == ("__debug__" : Str)) = false := by decide)
    (hcd : (x == ("__classdict__" : Str)) = false := by decide) (hs : swapsWith e (some (.Attribute (.Name x p) fld p')) pos.line X.env = pure false := by rfl) : DS X (.Assign [.Attribute (.Name x p) fld p'] e pos) (sPut i CR fld fe) := by
  obtain ⟨t, pt, q⟩ := he
  refine ⟨_, ps_fld (pe_var hN hv hd hcd) pt hs, fun B1 B H1 H σ ρ o D s h k => ?_⟩
  obtain ⟨d, h1, h⟩ := bind_some h
  obtain ⟨fl, h2, h⟩ := bind_some h
  obtain ⟨hl, h⟩ := of_ite h
  obtain ⟨ρ', h3, rfl⟩ := map_some h
  refine q σ H1 H ρ d _ s.sok h1 fun v H1' H' x1 dv => ?_
  obtain ⟨a, dx, eσ, hI, up⟩ := (s.ext x1).obj h2
  obtain ⟨fsV, q1, q2, q3, q4, q5, q6⟩ := hI
  have ne : dx ≠ a := fun z => by rw [z, q1] at q2; cases q2
  refine ⟨_, eσ, a, CR, dx, fsV, rfl, q1, hC, hF, by rw [fden_len q6]; omega, ?_⟩
  refine k _ H1' _ x1.st (up H1' _ _ ρ' h3 ⟨.refl _, fun b o z => ?_, fun b o z y => ?_⟩ ⟨_, upd_same, by rw [upd_ne ne]; exact q2, q3, q4, by have := putO_len fld d fl; omega, fden_put dv q6⟩)
  · rw [upd_ne (ne_of_none z q3)]; exact (s.ext x1).sok.sub _ _ z
  · unfold cutH at z
    split at z
    · cases z
    · rename_i hb
      rw [upd_ne (fun h => hb (by rw [h]; simp))]
      exact ⟨y, z⟩
end
/-! ### bodies -/
inductive OutM where
  | nx (ρ : En)
  | rt (d : PyData) (ρ : En)
  | ex (c : Str) (ρ : En)
def EndsM (K : PySem.W.Frag) (mg : Str → Option Value) (B1 B H1 : Hp) (D : Ends) (W : WX) : OutM → Prop
  | .nx ρ => ∀ σ H1' H', Same H1 H1' → Sst K B1 B H1' H' σ ρ → D.nx σ H'
  | .rt d ρ => ∀ v σ H1' H', Same H1 H1' → Sst K B1 B H1' H' σ ρ → Den K H1' v d → D.rt v H'
  | .ex c ρ => ∀ C, mg c = some (.ref C) → ∀ σ H1' H', Same H1 H1' → Sst K B1 B H1' H' σ ρ → W (.ref C) none σ H'
theorem EndsM.mono {K : PySem.W.Frag} {mg : Str → Option Value} {B1 B H1 H1' : Hp} {D : Ends} {W : WX} {o : OutM} (h : EndsM K mg B1 B H1 D W o) (s : Same H1 H1') : EndsM K mg B1 B H1' D W o := by
  cases o with
  | nx ρ => exact fun σ H2 H' s' => h σ H2 H' (s.trans s')
  | rt d ρ => exact fun v σ H2 H' s' => h v σ H2 H' (s.trans s')
  | ex c ρ => exact fun C g σ H2 H' s' => h C g σ H2 H' (s.trans s')
def DM (X : Cx) (W : WX) (st : Stmt) (f : En → Option OutM) : Prop :=
  ∃ t, PS X st t ∧ ∀ (B1 B H1 H : Hp) (σ : L2.St) (ρ : En) (o : OutM) (D : Ends), Sst X.K B1 B H1 H σ ρ → f ρ = some o → EndsM X.K X.mg B1 B H1 D W o → t D σ H
def DMs (X : Cx) (W : WX) (sts : List Stmt) (f : En → Option OutM) : Prop :=
  ∃ t, PSs X sts t ∧ ∀ (B1 B H1 H : Hp) (σ : L2.St) (ρ : En) (o : OutM) (D : Ends), Sst X.K B1 B H1 H σ ρ → f ρ = some o → EndsM X.K X.mg B1 B H1 D W o → t D σ H
def rdMs (K : PySem.W.Frag) (mg : Str → Option Value) (W : WX) (f : En → Option OutM) : TS := fun D σ H => ∃ (B1 B H1 : Hp) (ρ : En) (o : OutM), Sst K B1 B H1 H σ ρ ∧ f ρ = some o ∧ EndsM K mg B1 B H1 D W o
section
variable {X : Cx} {W : WX} {sts : List Stmt} {st : Stmt} {f : En → Option OutM} {g : En → Option Out} {e : Expr} {fe : En → Option PyData} {pos : Pos}
theorem DMs.pss (h : DMs X W sts f) : PSs X sts (rdMs X.K X.mg W f) := by
  obtain ⟨t, p, q⟩ := h
  exact ⟨fun pins s σ H D I ⟨B1, B, H1, ρ, o, sk, hf, k⟩ => p.run pins s σ H D I (q B1 B H1 H σ ρ o D sk hf k)⟩
def toM : Out → Option OutM
  | .nx ρ => some (.nx ρ)
  | _ => none
def mO (g : En → Option Out) : En → Option OutM := fun ρ => (g ρ).bind toM
theorem dm_of (h : DS X st g) : DM X W st (mO g) := by
  obtain ⟨t, p, q⟩ := h
  refine ⟨t, p, fun B1 B H1 H σ ρ o D s e k => ?_⟩
  obtain ⟨o1, e1, e2⟩ := bind_some e
  cases o1 <;> cases e2
  exact q B1 B H1 H σ ρ _ D s e1 k
theorem dms_of (h : DSs X sts g) : DMs X W sts (mO g) := by
  obtain ⟨t, p, q⟩ := h
  refine ⟨t, p, fun B1 B H1 H σ ρ o D s e k => ?_⟩
  obtain ⟨o1, e1, e2⟩ := bind_some e
  cases o1 <;> cases e2
  exact q B1 B H1 H σ ρ _ D s e1 k
theorem dms_one (h : DM X W st f) : DMs X W [st] f := by
  obtain ⟨t, p, q⟩ := h
  exact ⟨_, pss_one p, q⟩
theorem dms_nil : DMs X W [] (mO sNil) := dms_of dss_nil
def thenM (g : En → Option OutM) : OutM → Option OutM
  | .nx ρ => g ρ
  | o => some o
def mSeq (f g : En → Option OutM) : En → Option OutM := fun ρ => (f ρ).bind (thenM g)
theorem dms_cons {g : En → Option OutM} (h1 : DM X W st f) (h2 : DMs X W sts g) : DMs X W (st :: sts) (mSeq f g) := by
  obtain ⟨t, p, q⟩ := h1
  obtain ⟨u, p', q'⟩ := h2
  refine ⟨_, pss_cons p p', fun B1 B H1 H σ ρ o D s e k => ?_⟩
  obtain ⟨o1, e1, e⟩ := bind_some e
  refine q B1 B H1 H σ ρ o1 { D with nx := u D } s e1 ?_
  cases o1 with
  | nx ρ' => exact fun σ' H1' H' sm s' => q' B1 B H1' H' σ' ρ' o D s' e (k.mono sm)
  | ex c ρ' => cases e; exact k
  | rt d ρ' => cases e; exact k
def mIf (t : En → Option Bool) (f g : En → Option OutM) : En → Option OutM := fun ρ => (t ρ).bind fun b => if b = true then f ρ else g ρ
theorem dm_if {c : Expr} {tf : En → Option Bool} {g : En → Option OutM} {ss us : List Stmt} (hc : DT X c tf) (ha : DMs X W ss f) (hb : DMs X W us g) : DM X W (.If c ss us pos) (mIf tf f g) := by
  obtain ⟨t, p, q⟩ := hc
  obtain ⟨ta, pa, qa⟩ := ha
  obtain ⟨tb, pb, qb⟩ := hb
  refine ⟨_, ps_if p pa pb, fun B1 B H1 H σ ρ o D s e k => ?_⟩
  obtain ⟨c, e1, e⟩ := bind_some e
  refine q σ H1 H ρ c _ s.sok e1 fun H1' H' x => ?_
  cases c with
  | true => exact qa B1 B H1' H' σ ρ o D (s.ext x) e (k.mono x.st)
  | false => exact qb B1 B H1' H' σ ρ o D (s.ext x) e (k.mono x.st)
def mRet (fe : En → Option PyData) : En → Option OutM := fun ρ => (fe ρ).map fun d => .rt d ρ
theorem dm_ret (h : DE X e fe) : DM X W (.Return (some e) pos) (mRet fe) := by
  obtain ⟨t, p, q⟩ := h
  refine ⟨_, ps_ret p, fun B1 B H1 H σ ρ o D s e k => ?_⟩
  obtain ⟨d, e1, rfl⟩ := map_some e
  exact q σ H1 H ρ d _ s.sok e1 fun v H1' H' x dv => k v σ H1' H' x.st (s.ext x) dv
def mRaise (c : Str) : En → Option OutM := fun ρ => some (.ex c ρ)
theorem dm_raise {x m : Str} {j : Nat} {C : Addr} {p p2 pos pos2 : Pos} (hc : X.calm = true) (tk : Takes X W) (F : ExF X.K X.mg x C) (hg : Gl X x) (hdb : (x == ("__debug__" : Str)) = false := by decide) :
    DM X W (.Raise (some (.Call (.Name x p) [.Constant (.str m) j p2] [] pos)) none pos2) (mRaise x) := by
  refine ⟨_, ps_raise hc tk (pmk_own PySem.F.excBase_ValueError F.x F.g F.k (raises_own F.b F.t) hg hdb), fun B1 B H1 H σ ρ o D s e k => ?_⟩
  cases e
  exact k C F.g σ H1 H (.refl _) s
end
/-! ### the methods -/
abbrev GM := Addr → Addr → Fs → List PyData → Option (Res × Fs)
def spM (K : PySem.W.Frag) (mg : Str → Option Value) (CR : Addr) (n : Nat) (g : GM) : Sp := fun vs H Q E => vs.length = n + 1 ∧ ∃ (H1 : Hp) (a dx : Addr) (fs : Fs) (args : List V) (ds : List PyData) (r : Res) (fs' : Fs), vs = .ref a :: args ∧ Same H1 H ∧ InsOk K H1 H CR a dx fs ∧ DenL K H1 args ds ∧ g a dx fs ds = some (r, fs') ∧
  (∀ d, r = .ok d → ∀ v H1' H', Ext H1 (cutH H [a, dx]) H1' H' → InsOk K H1' H' CR a dx fs' → Den K H1' v d → Q v H') ∧ ∀ c, r = .ex c → ∀ C, mg c = some (.ref C) → ∀ H1' H', Ext H1 (cutH H [a, dx]) H1' H' → InsOk K H1' H' CR a dx fs' → E (.ref C) none H'
def soFs (CR a dx : Addr) (ρ : En) : Option Fs := match ρ[(0 : Nat)]? with
  | some (some (.so C a' dx' fs)) => if C = CR ∧ a' = a ∧ dx' = dx then some fs else none
  | _ => none
def outM (CR a dx : Addr) : OutM → Option (Res × Fs)
  | .nx ρ => (soFs CR a dx ρ).map fun fs => (.ok .none, fs)
  | .rt d ρ => (soFs CR a dx ρ).map fun fs => (.ok d, fs)
  | .ex c ρ => (soFs CR a dx ρ).map fun fs => (.ex c, fs)
def fnM (CR : Addr) (n m : Nat) (fb : En → Option OutM) : GM := fun a dx fs ds => if ds.length = n then (fb (some (.so CR a dx fs) :: (ds.map (fun d => some (.im d)) ++ List.replicate m none))).bind (outM CR a dx) else none
theorem soFs_ok {K : PySem.W.Frag} {B1 B H1 H : Hp} {σ : L2.St} {ρ : En} {CR a dx : Addr} {fs : Fs} (s : Sst K B1 B H1 H σ ρ) (e : soFs CR a dx ρ = some fs) : InsOk K H1 H CR a dx fs := by
  unfold soFs at e
  split at e
  · rename_i C a' dx' fs0 e0
    split at e
    · rename_i hh
      obtain ⟨rfl, rfl, rfl⟩ := hh
      cases e
      obtain ⟨v, _, _, q⟩ := s.sok.at_ 0 _ e0
      exact q
    · cases e
  · cases e
theorem cut_same {H1 H : Hp} {a dx : Addr} (sm : Same H1 H) (n1 : H1 a = none) (n2 : H1 dx = none) : Same H1 (cutH H [a, dx]) := fun b o h => by
  unfold cutH
  rw [if_neg (fun hb => by
    simp only [List.mem_cons, List.not_mem_nil, or_false] at hb
    rcases hb with rfl | rfl
    · rw [n1] at h; cases h
    · rw [n2] at h; cases h)]
  exact sm _ _ h
section
variable {P : Program} {w : World} {K : PySem.W.Frag} {mg : Str → Option Value} {base : Heap} {CR : Addr}
theorem okM {x q : Str} {st : Stmt} {f : Addr} {fd : FuncData} {N ps : List Str} {k : Nat} {fb : En → Option OutM} (n m : Nat) (F : Fun K x q st f fd) (S : FnScope N ps (defScope st)) (hn : ps.length = n + 1) (hNm : N.length = n + 1 + m)
    (body : ∀ (cdv : Value) (A : Around) (outer : List Env) (s : Shared) (H : Hp) (E : XK), Room k (A.deeper (envOfC q (defScope st) s.heap.objs.size f cdv)) → DMs (cxOf (L2.CX P w) P w K mg base N q (defScope st) f cdv A outer s H E) (fun cls d _ H => E cls d H) (defBody st) fb) :
    FnOk P w K mg base (L2.CX P w) (k + 1) f fd ps (spM K mg CR n (fnM CR n m fb)) := by
  refine F.okX S (fun vs H Q E h => h.1.trans hn.symm) (fun cdv A outer s H vs Q E hr h => ?_)
  obtain ⟨hl, H1, a, dx, fs, args, ds, r, fs', rfl, sm, hI, dl, e, k1, k2⟩ := h
  obtain ⟨t, p, q⟩ := body cdv A outer s H E hr
  unfold fnM at e
  have hds : ds.length = n := by rw [← dl.length]; simpa using hl
  rw [if_pos hds] at e
  refine ⟨t, p, ?_⟩
  have hst : L2.start N (V.ref a :: args) = some (V.ref a) :: (args.map some ++ List.replicate m none) := by
    unfold L2.start
    rw [show N.length - (V.ref a :: args).length = m by rw [List.length_cons, dl.length]; omega]
    rfl
  rw [hst]
  obtain ⟨o, ho, e⟩ := bind_some e
  have sk := sok_startO (m := m) (w := .so CR a dx fs) sm dl ⟨rfl, hI⟩
  obtain ⟨fsV, q1, q2, q3, q4, _⟩ := id hI
  have sc := cut_same (a := a) (dx := dx) sm q3 q4
  have s0 : Sst K H1 (cutH H [a, dx]) H1 H (some (V.ref a) :: (args.map some ++ List.replicate m none)) (some (.so CR a dx fs) :: (ds.map (fun d => some (.im d)) ++ List.replicate m none)) := by
    refine ⟨sk, sc, ⟨.refl _, sm, fun b o z y => ⟨y, ?_⟩⟩, fun i w v b e _ o => ?_⟩
    · unfold cutH at z
      split at z
      · cases z
      · exact z
    · cases i with
      | zero =>
        cases e
        unfold cutH
        rw [if_pos (by
          rcases o.2 with rfl | rfl
          · simp
          · simp)]
      | succ i =>
        rcases List.mem_append.mp (List.mem_of_getElem? (show (ds.map (fun d => some (W.im d)) ++ List.replicate m none)[i]? = _ from e)) with z | z
        · obtain ⟨d, _, z⟩ := List.mem_map.mp z
          cases z
          exact o.elim
        · cases List.eq_of_mem_replicate z
  refine q H1 _ H1 H _ _ o _ s0 ho ?_
  cases o with
  | rt d ρ =>
    obtain ⟨fs2, e1, e2⟩ := map_some e
    cases e2
    exact fun v σ H1' H' _ s dv => k1 d rfl v H1' H' s.fr (soFs_ok s e1) dv
  | nx ρ =>
    obtain ⟨fs2, e1, e2⟩ := map_some e
    cases e2
    exact fun σ H1' H' _ s => k1 .none rfl .non H1' H' s.fr (soFs_ok s e1) .non
  | ex c ρ =>
    obtain ⟨fs2, e1, e2⟩ := map_some e
    cases e2
    exact fun C g σ H1' H' _ s => k2 c rfl C g H1' H' s.fr (soFs_ok s e1)
structure CalM (P : Program) (w : World) (K : PySem.W.Frag) (mg : Str → Option Value) (base : Heap) (CR : Addr) (k : Nat) (m : Str) (n : Nat) (g : GM) : Prop where
  ex : ∃ (f : Addr) (fd : FuncData) (ps : List Str), FnOk P w K mg base (L2.CX P w) k f fd ps (spM K mg CR n g) ∧ Meth K CR m f ∧ Binds K fd ps []
end
open Classical in
/-- whatever the addresses -/
noncomputable def allM (g : GM) (fs : Fs) (ds : List PyData) : Option (Res × Fs) := if h : ∃ r, ∀ a dx, g a dx fs ds = some r then some h.choose else none
theorem allM_eq {g : GM} {fs : Fs} {ds : List PyData} {r : Res × Fs} (h : ∀ a dx, g a dx fs ds = some r) : allM g fs ds = some r := by
  have hh : ∃ r, ∀ a dx, g a dx fs ds = some r := ⟨r, h⟩
  unfold allM
  rw [dif_pos hh]
  have := hh.choose_spec 0 0
  rw [h 0 0] at this
  exact this.symm
theorem allM_some {g : GM} {fs : Fs} {ds : List PyData} {r : Res × Fs} (h : allM g fs ds = some r) (a dx : Addr) : g a dx fs ds = some r := by
  unfold allM at h
  split at h
  · rename_i hh
    cases h
    exact hh.choose_spec a dx
  · cases h
end Dv

/-! expressions that change an instance -/
namespace Dv
open PySem PySem.Spec PyProof.Rows L2
def DEM (X : Cx) (e : Expr) (f : En → Option (PyData × En)) : Prop :=
  ∃ t, PE X e t ∧ ∀ (B1 B H1 H : Hp) (σ : L2.St) (ρ : En) (d : PyData) (ρ' : En) (Q : VK), Sst X.K B1 B H1 H σ ρ → f ρ = some (d, ρ') → (∀ v H1' H', Same H1 H1' → Sst X.K B1 B H1' H' σ ρ' → Den X.K H1' v d → Q v H') → t σ H Q
def DTM (X : Cx) (e : Expr) (f : En → Option (Bool × En)) : Prop :=
  ∃ t, PT X e t ∧ ∀ (B1 B H1 H : Hp) (σ : L2.St) (ρ : En) (b : Bool) (ρ' : En) (Q : Bool → Hp → Prop), Sst X.K B1 B H1 H σ ρ → f ρ = some (b, ρ') → (∀ H1' H', Same H1 H1' → Sst X.K B1 B H1' H' σ ρ' → Q b H') → t σ H Q
def DWM (X : Cx) (e : Expr) (f : En → Option (Bool × En)) : Prop :=
  ∃ t, PW X e t ∧ ∀ (B1 B H1 H : Hp) (σ : L2.St) (ρ : En) (b : Bool) (ρ' : En) (Q : Bool → Hp → Prop), Sst X.K B1 B H1 H σ ρ → f ρ = some (b, ρ') → (∀ H1' H', Same H1 H1' → Sst X.K B1 B H1' H' σ ρ' → Q b H') → t σ H Q
section
variable {X : Cx} {a b c e : Expr} {es rest : List Expr} {f fe fa fb : En → Option PyData} {fm : En → Option (PyData × En)} {fs : En → Option (List PyData)} {pos p apos : Pos} {x m : Str} {CR : Addr} {k j n : Nat} {g : GM} {tm tn : En → Option (Bool × En)}
def qO (f : En → Option PyData) : En → Option (PyData × En) := fun ρ => (f ρ).map fun d => (d, ρ)
theorem dem_of (h : DE X e f) : DEM X e (qO f) := by
  obtain ⟨t, p, q⟩ := h
  refine ⟨t, p, fun B1 B H1 H σ ρ d ρ' Q s h k => ?_⟩
  obtain ⟨d1, h1, h2⟩ := map_some h
  cases h2
  exact q σ H1 H ρ _ Q s.sok h1 fun v H1' H' x dv => k v H1' H' x.st (s.ext x) dv
noncomputable def qMeth (i : Nat) (CR : Addr) (m : Str) (g : GM) (fs : En → Option (List PyData)) : En → Option (PyData × En) := fun ρ => (obOf i CR ρ).bind fun fl => if fl.lookup m = none then (fs ρ).bind fun ds => (allM g fl ds).bind fun rf => (okR rf.1).bind fun d => (setO i rf.2 ρ).map fun ρ' => (d, ρ') else none
theorem meth_read (i : Nat) {B1 B H1 H : Hp} {σ : L2.St} {ρ ρ' : En} {d : PyData} {Q : VK} {t : TA} (qa : ∀ (σ : L2.St) (H1 H : Hp) (ρ : En) (ds : List PyData) (Q : List V → Hp → Prop), Sok X.K H1 H σ ρ → fs ρ = some ds → (∀ vs H1' H', Ext H1 H H1' H' → DenL X.K H1' vs ds → Q vs H') → t σ H Q)
    (hn : ∀ ρ ds, fs ρ = some ds → ds.length = n) (s : Sst X.K B1 B H1 H σ ρ) (h : qMeth i CR m g fs ρ = some (d, ρ')) (k : ∀ v H1' H', Same H1 H1' → Sst X.K B1 B H1' H' σ ρ' → Den X.K H1' v d → Q v H') :
    tMeth CR m (spM X.K X.mg CR n g) [] (fun _ _ _ => False) (tVar i) t σ H Q := by
  obtain ⟨fl, h1, h⟩ := bind_some h
  obtain ⟨h2, h⟩ := of_ite h
  obtain ⟨ds, h3, h⟩ := bind_some h
  obtain ⟨rf, h4, h⟩ := bind_some h
  obtain ⟨d', h5, h⟩ := bind_some h
  obtain ⟨ρ2, h6, h⟩ := map_some h
  cases h
  obtain ⟨r, fl'⟩ := rf
  obtain ⟨a0, dx0, eσ, ⟨fsV, q1, q2, q3, q4, q5, q6⟩, _⟩ := s.obj h1
  refine ⟨_, eσ, a0, dx0, fsV, rfl, q1, fden_none q6 h2, qa σ H1 H ρ ds _ s.sok h3 fun vs H1' H' x1 dl => ?_⟩
  obtain ⟨a1, dx1, eσ', hI, up⟩ := (s.ext x1).obj h1
  rw [eσ] at eσ'
  cases eσ'
  rw [List.append_nil]
  refine ⟨by rw [List.length_cons, dl.length, hn _ _ h3], H1', a0, dx1, fl, vs, ds, r, fl', rfl, x1.sub, hI, dl, allM_some h4 a0 dx1, fun d2 e2 v H2 H2' x2 hI2 dv => ?_, fun c e2 => ?_⟩
  · subst e2
    cases h5
    exact k v H2 H2' (x1.st.trans x2.st) (up H2 H2' fl' ρ' h6 x2 hI2) dv
  · subst e2
    cases h5
theorem dem_meth (i : Nat) {pl : Sem Bool} (hC : Cls X.K CR) (c : CalM X.prog X.w X.K X.mg X.base CR k m n g) (hr : Room j X.A) (hk : k ≤ j) (ha : DA X (e :: es) fs) (hn : ∀ ρ ds, fs ρ = some ds → ds.length = n) (hN : X.N[i]? = some x := by rfl) (hv : Vis X.env.scope x := by first | exact Or.inl rfl | exact Or.inr (Or.inl rfl) | exact Or.inr (Or.inr rfl)) (hd : (x == ("__debug__" : Str)) = false := by decide)
    (hcd : (x == ("__classdict__" : Str)) = false := by decide)
    (hst : starEach (e :: es) X.env = (false, eval e X.env) :: starEach es X.env := by rfl) (hpl : (backTo pos (starEach es X.env)).any (·.1) = false := by rfl)
    (ht : eval (.Call (.Attribute (.Name x p) m apos) (e :: es) [] pos) X.env = (do
      let ov ← eval (.Name x p) X.env
      standAt apos.atName
      let (f, first) ← holding [ov] (getMethod ov m pl)
      callWith pos f first (backTo pos (starEach (e :: es) X.env)) (backToKw pos (keywordEach [] X.env))) := by rfl) : DEM X (.Call (.Attribute (.Name x p) m apos) (e :: es) [] pos) (qMeth i CR m g fs) := by
  obtain ⟨f, fd, ps, F, hm, b⟩ := c.ex
  obtain ⟨t, pt, q⟩ := ha
  exact ⟨_, pe_meth (E := fun _ _ _ => False) (pe_var hN hv hd hcd) hC hm F (hr.mono hk) b .nil passF pt hst hpl ht, fun B1 B H1 H σ ρ d ρ' Q s h k => meth_read i q hn s h k⟩
theorem dem_meth0 (i : Nat) {pl : Sem Bool} (hC : Cls X.K CR) (c : CalM X.prog X.w X.K X.mg X.base CR k m 0 g) (hr : Room j X.A) (hk : k ≤ j) (hN : X.N[i]? = some x := by rfl) (hv : Vis X.env.scope x := by first | exact Or.inl rfl | exact Or.inr (Or.inl rfl) | exact Or.inr (Or.inr rfl)) (hd : (x == ("__debug__" : Str)) = false := by decide)
    (hcd : (x == ("__classdict__" : Str)) = false := by decide)
    (ht : eval (.Call (.Attribute (.Name x p) m apos) [] [] pos) X.env = (do
      let ov ← eval (.Name x p) X.env
      standAt apos.atName
      let (f, first) ← holding [ov] (getMethod ov m pl)
      callWith pos f first (backTo pos (starEach [] X.env)) (backToKw pos (keywordEach [] X.env))) := by rfl) : DEM X (.Call (.Attribute (.Name x p) m apos) [] [] pos) (qMeth i CR m g eNil) := by
  obtain ⟨f, fd, ps, F, hm, b⟩ := c.ex
  refine ⟨_, pe_meth0 (E := fun _ _ _ => False) (pe_var hN hv hd hcd) hC hm F (hr.mono hk) b .nil passF ht, fun B1 B H1 H σ ρ d ρ' Q s h k => meth_read i (fs := eNil) (t := tNil) (fun σ H1 H ρ ds Q s h k => by cases h; exact k [] H1 H (.refl s.sub) .nil) len_nil s h k⟩
/-! ### operators, tests -/
def q2 (g : PyData → PyData → Option PyData) (fm : En → Option (PyData × En)) (fb : En → Option PyData) : En → Option (PyData × En) := fun ρ => (fm ρ).bind fun z => (fb z.2).bind fun e => (g z.1 e).map fun r => (r, z.2)
theorem dem_cmp {op : CmpOp} {r : R2} {g : PyData → PyData → Option PyData} (ho : OpR X (compareOp op) r) (hr : V2 X.K r g) (ha : DEM X a fm) (hb : DE X b fb) (hm : behindInMarks op b = false) : DTM X (.Compare a [op] [b] pos) (fun ρ => (q2 g fm fb ρ).bind fun z => (asB z.1).map fun k => (k, z.2)) := by
  obtain ⟨ta, pa, qa⟩ := ha
  obtain ⟨tb, pb, qb⟩ := hb
  refine ⟨_, pt_cmpR ho pa pb hm, fun B1 B H1 H σ ρ k ρ' Q s h kk => ?_⟩
  obtain ⟨z0, hq, hb0⟩ := bind_some h
  obtain ⟨k0, hb', e0⟩ := map_some hb0
  obtain ⟨⟨d1, ρ1⟩, h1, hq2⟩ := bind_some hq
  obtain ⟨d2, h2, hq3⟩ := bind_some hq2
  obtain ⟨d3, h3, hq4⟩ := map_some hq3
  subst hq4
  have e1 : k0 = k := congrArg Prod.fst e0
  have e2 : ρ1 = ρ' := congrArg Prod.snd e0
  subst e1
  subst e2
  have e := asB_some hb'
  subst e
  refine qa B1 B H1 H σ ρ d1 ρ1 _ s h1 fun v H1' H' s1 s' dv => qb σ H1' H' ρ1 d2 _ s'.sok h2 fun y H2 H2' x2 dy => ?_
  exact hr v y d1 d2 _ H2 H2' _ x2.sub (Den.mono x2.st _ _ dv) dy h3 fun w H3 H3' x3 dw => ⟨_, den_bl dw, kk H3 H3' ((s1.trans x2.st).trans x3.st) ((s'.ext x2).ext x3)⟩
def mCmp (g : PyData → PyData → Option PyData) (fm : En → Option (PyData × En)) (fb : En → Option PyData) : En → Option (Bool × En) := fun ρ => (q2 g fm fb ρ).bind fun z => (asB z.1).map fun k => (k, z.2)
def mT (t : En → Option Bool) : En → Option (Bool × En) := fun ρ => (t ρ).map fun b => (b, ρ)
theorem dtm_of {t : En → Option Bool} (h : DT X e t) : DTM X e (mT t) := by
  obtain ⟨t, p, q⟩ := h
  refine ⟨t, p, fun B1 B H1 H σ ρ d ρ' Q s h k => ?_⟩
  obtain ⟨d1, h1, h2⟩ := map_some h
  cases h2
  exact q σ H1 H ρ _ Q s.sok h1 fun H1' H' x => k H1' H' x.st (s.ext x)
theorem DWM.dtm (h : DWM X e tm) : DTM X e tm := let ⟨t, p, q⟩ := h; ⟨t, p.pt, q⟩
theorem dwm_or1 (h : DTM X a tm) : DWM X (.BoolOp .Or [a] pos) tm := let ⟨t, p, q⟩ := h; ⟨t, pw_or1 p, q⟩
def mOr (t u : En → Option (Bool × En)) : En → Option (Bool × En) := fun ρ => (t ρ).bind fun z => if z.1 = true then some (true, z.2) else u z.2
theorem dwm_or (h : DTM X a tm) (h' : DWM X (.BoolOp .Or (b :: rest) pos) tn) : DWM X (.BoolOp .Or (a :: b :: rest) pos) (mOr tm tn) := by
  obtain ⟨ta, pa, qa⟩ := h
  obtain ⟨tb, pb, qb⟩ := h'
  refine ⟨_, pw_or pa pb, fun B1 B H1 H σ ρ d ρ' Q s h k => ?_⟩
  obtain ⟨⟨b0, ρ0⟩, h1, h⟩ := bind_some h
  refine qa B1 B H1 H σ ρ b0 ρ0 _ s h1 fun H1' H' s1 s' => ?_
  cases b0 with
  | true =>
    cases h
    rw [if_pos rfl]
    exact k H1' H' s1 s'
  | false =>
    rw [if_neg Bool.false_ne_true]
    exact qb B1 B H1' H' σ ρ0 d ρ' Q s' h fun H2 H2' s2 s'' => k H2 H2' (s1.trans s2) s''
/-! ### statements -/
variable {ss us : List Stmt} {g1 g2 : En → Option Out}
def sIfM (t : En → Option (Bool × En)) (f g : En → Option Out) : En → Option Out := fun ρ => (t ρ).bind fun z => if z.1 = true then f z.2 else g z.2
theorem ds_ifM (hc : DTM X c tm) (ha : DSs X ss g1) (hb : DSs X us g2) : DS X (.If c ss us pos) (sIfM tm g1 g2) := by
  obtain ⟨t, p, q⟩ := hc
  obtain ⟨ta, pa, qa⟩ := ha
  obtain ⟨tb, pb, qb⟩ := hb
  refine ⟨_, ps_if p pa pb, fun B1 B H1 H σ ρ o D s e k => ?_⟩
  obtain ⟨⟨c, ρ0⟩, e1, e⟩ := bind_some e
  refine q B1 B H1 H σ ρ c ρ0 _ s e1 fun H1' H' s1 s' => ?_
  cases c with
  | true => exact qa B1 B H1' H' σ ρ0 o D s' e (k.mono s1)
  | false => exact qb B1 B H1' H' σ ρ0 o D s' e (k.mono s1)
def sExpM (fm : En → Option (PyData × En)) : En → Option Out := fun ρ => (fm ρ).map fun z => .nx z.2
theorem ds_expM (h : DEM X e fm) (hs : swapsWith e none pos.line X.env = pure false := by rfl) : DS X (.Expr e pos) (sExpM fm) := by
  obtain ⟨t, p, q⟩ := h
  refine ⟨_, ps_expr p hs, fun B1 B H1 H σ ρ o D s e k => ?_⟩
  obtain ⟨⟨d, ρ0⟩, e1, rfl⟩ := map_some e
  exact q B1 B H1 H σ ρ d ρ0 _ s e1 fun v H1' H' s1 s' _ => k σ H1' H' s1 s'
def sRetM (fm : En → Option (PyData × En)) : En → Option Out := fun ρ => (fm ρ).map fun z => .rt z.1
theorem ds_retM (h : DEM X e fm) : DS X (.Return (some e) pos) (sRetM fm) := by
  obtain ⟨t, p, q⟩ := h
  refine ⟨_, ps_ret p, fun B1 B H1 H σ ρ o D s e k => ?_⟩
  obtain ⟨⟨d, ρ0⟩, e1, rfl⟩ := map_some e
  exact q B1 B H1 H σ ρ d ρ0 _ s e1 fun v H1' H' s1 s' dv => k v H1' H' s'.fr dv
def sSetM (i : Nat) (fm : En → Option (PyData × En)) : En → Option Out := fun ρ => (fm ρ).map fun z => .nx (z.2.set i (some (.im z.1)))
theorem ds_setM' (i : Nat) {y : Str} {py : Pos} (hN : X.N.Nodup) (he : DEM X e fm) (hi : X.N[i]? = some y := by rfl) (hx : Loc X.env.scope y := by first | exact Or.inl rfl | exact Or.inr rfl) (hs : swapsWith e (some (.Name y py)) pos.line X.env = pure false := by rfl) (hf : X.fn y = true ∨ X.env.scope.names.lookup y = some .local := by first | exact .inl rfl | exact .inr rfl) :
    DS X (.Assign [.Name y py] e pos) (sSetM i fm) := by
  obtain ⟨t, p, q⟩ := he
  refine ⟨_, ps_set hN hi hx p hs hf, fun B1 B H1 H σ ρ o D s e k => ?_⟩
  obtain ⟨⟨d, ρ0⟩, e1, rfl⟩ := map_some e
  exact q B1 B H1 H σ ρ d ρ0 _ s e1 fun v H1' H' s1 s' dv => k _ H1' H' s1 (s'.set i dv)
end
end Dv

/-! instances made; a method that hands out a new one -/
namespace Dv
open PySem PySem.Spec PyProof.Rows L2
section
variable {X : Cx} {a b c e : Expr} {es rest : List Expr} {fs : En → Option (List PyData)} {pos p apos pos2 : Pos} {x m y : Str} {CR : Addr} {k j n : Nat} {g : GM}
noncomputable def sMk (i : Nat) (CR : Addr) (g : GM) (fs : En → Option (List PyData)) : En → Option Out := fun ρ => (fs ρ).bind fun ds => (allM g [] ds).bind fun rf => match rf.1 with
  | .ok .none => some (.nx (ρ.set i (some (.ob CR rf.2))))
  | _ => none
theorem ds_make (i : Nat) {py : Pos} {f : Addr} {fd : FuncData} {ps : List Str} (hN : X.N.Nodup) (M : Mk X.K CR f) (F : FnOk X.prog X.w X.K X.mg X.base (L2.CX X.prog X.w) k f fd ps (spM X.K X.mg CR n g)) (hr : Room j X.A) (hk : k + 1 ≤ j) (hg : Gl X x) (hm : X.mg x = some (.ref CR)) (hb : Binds X.K fd ps []) (ha : DA X (e :: es) fs) (hn : ∀ ρ ds, fs ρ = some ds → ds.length = n)
    (hdb : (x == ("__debug__" : Str)) = false := by decide) (he : starEach (e :: es) X.env = (false, eval e X.env) :: starEach es X.env := by rfl) (hpl : (backTo pos (starEach es X.env)).any (·.1) = false := by rfl)
    (hi : X.N[i]? = some y := by rfl) (hx : Loc X.env.scope y := by first | exact Or.inl rfl | exact Or.inr rfl) (hs : swapsWith (.Call (.Name x p) (e :: es) [] pos) (some (.Name y py)) pos2.line X.env = pure false := by rfl) (hf : X.fn y = true ∨ X.env.scope.names.lookup y = some .local := by first | exact .inl rfl | exact .inr rfl) :
    DS X (.Assign [.Name y py] (.Call (.Name x p) (e :: es) [] pos) pos2) (sMk i CR g fs) := by
  obtain ⟨t, pt, q⟩ := ha
  refine ⟨_, ps_set hN hi hx (pe_make M F (hr.mono hk) hg hm hb .nil passF pt hdb he hpl) hs hf, fun B1 B H1 H σ ρ o D s h k => ?_⟩
  obtain ⟨ds, h1, h⟩ := bind_some h
  obtain ⟨⟨r, fl⟩, h2, h⟩ := bind_some h
  have hrr : r = .ok .none ∧ o = .nx (ρ.set i (some (.ob CR fl))) := by
    cases r with
    | ok d =>
      cases d with
      | none => cases h; exact ⟨rfl, rfl⟩
      | _ => cases h
    | _ => cases h
  obtain ⟨rfl, rfl⟩ := hrr
  refine q σ H1 H ρ ds _ s.sok h1 fun vs H1' H' x1 dl => fun z dz nz nd ne => ?_
  have s1 := s.ext x1
  rw [List.append_nil]
  have n1 : H1' z = none := x1.sub.free nz
  have n2 : H1' dz = none := x1.sub.free nd
  refine ⟨by rw [List.length_cons, dl.length, hn _ _ h1], H1', z, dz, [], vs, ds, .ok .none, fl, rfl, ?_, ⟨[], upd_same, by rw [upd_ne ne, upd_same], n1, n2, Nat.zero_le _, .nil⟩, dl, allM_some h2 z dz, fun d2 e2 v H2 H2' x2 hI dv => ?_, fun c e2 => by cases e2⟩
  · intro b o hb
    rw [upd_ne (ne_of_none hb n1), upd_ne (ne_of_none hb n2)]
    exact x1.sub _ _ hb
  · cases e2
    cases dv
    have x3 : Ext H1' H' H2 H2' := ⟨x2.st, x2.sub, fun b o hb hn0 => x2.fr b o (by
      unfold cutH
      have b1 : b ≠ z := fun h => by rw [h, nz] at hb; cases hb
      have b2 : b ≠ dz := fun h => by rw [h, nd] at hb; cases hb
      rw [if_neg (by simp [b1, b2]), upd_ne b1, upd_ne b2]
      exact hb) hn0⟩
    refine ⟨rfl, k _ H2 H2' (x1.st.trans x2.st) (s1.setM i x3 (fun b ob => ?_) ⟨z, dz, rfl, hI⟩)⟩
    obtain ⟨fsV, w1, _⟩ := hI
    rcases ob with ob | ⟨a', dx', fsV', ob, e', rfl⟩
    · cases ob
      exact nz
    · cases ob
      rw [w1] at e'
      cases e'
      exact nd
/-! ### a method that hands out a new instance -/
def spT (K : PySem.W.Frag) (CR : Addr) (g : Fs → Option Fs) : Sp := fun vs H Q _ => vs.length = 1 ∧ ∃ (H1 : Hp) (a dx : Addr) (fsV : List (Str × V)) (fs fs' : Fs), vs = [.ref a] ∧ Same H1 H ∧ H1 a = some (.ins CR dx fsV) ∧ H1 dx = some (.own a) ∧ fs.length ≤ 900 ∧ FDen K H1 fsV fs ∧ g fs = some fs' ∧
  ∀ a' dx' H1' H', Ext H1 H H1' H' → InsOk K H1' H' CR a' dx' fs' → H a' = none → H dx' = none → Q (.ref a') H'
def DRs (X : Cx) (CR : Addr) (sts : List Stmt) (f : En → Option Fs) : Prop :=
  ∃ t, PSs X sts t ∧ ∀ (B1 B H1 H : Hp) (σ : L2.St) (ρ : En) (fs : Fs) (D : Ends), Sst X.K B1 B H1 H σ ρ → f ρ = some fs → (∀ a dx H1' H', Ext B1 B H1' H' → InsOk X.K H1' H' CR a dx fs → B a = none → B dx = none → D.rt (.ref a) H') → t D σ H
def rOb (i : Nat) (CR : Addr) : En → Option Fs := fun ρ => match ρ[i]? with
  | some (some (.ob C fs)) => if C = CR then some fs else none
  | _ => none
theorem drs_ret (i : Nat) (hN : X.N[i]? = some x := by rfl) (hv : Vis X.env.scope x := by first | exact Or.inl rfl | exact Or.inr (Or.inl rfl) | exact Or.inr (Or.inr rfl)) (hd : (x == ("__debug__" : Str)) = false := by decide) (hcd : (x == ("__classdict__" : Str)) = false := by decide) :
    DRs X CR [.Return (some (.Name x p)) pos] (rOb i CR) := by
  refine ⟨_, pss_one (ps_ret (pe_var hN hv hd hcd)), fun B1 B H1 H σ ρ fs D s h k => ?_⟩
  unfold rOb at h
  split at h
  · rename_i C fs0 e0
    obtain ⟨ec, h'⟩ := of_ite h
    injection h' with h'
    subst h'
    subst ec
    obtain ⟨v, e1, a, dx, rfl, hI⟩ := s.sok.at_ i _ e0
    obtain ⟨fsV, q1, q2, _⟩ := id hI
    exact ⟨_, e1, k a dx H1 H s.fr hI (s.own i _ _ a e0 e1 (.inl rfl)) (s.own i _ _ dx e0 e1 (.inr ⟨a, dx, fsV, rfl, q1, rfl⟩))⟩
  · cases h
def rSeq (f : En → Option Out) (g : En → Option Fs) : En → Option Fs := fun ρ => (f ρ).bind fun o => match o with
  | .nx ρ' => g ρ'
  | _ => none
theorem drs_cons {st : Stmt} {sts : List Stmt} {f : En → Option Out} {gr : En → Option Fs} (h1 : DS X st f) (h2 : DRs X CR sts gr) : DRs X CR (st :: sts) (rSeq f gr) := by
  obtain ⟨t, p, q⟩ := h1
  obtain ⟨u, p', q'⟩ := h2
  refine ⟨_, pss_cons p p', fun B1 B H1 H σ ρ fs D s e k => ?_⟩
  obtain ⟨o1, e1, e⟩ := bind_some e
  cases o1 with
  | nx ρ' => exact q B1 B H1 H σ ρ (.nx ρ') { D with nx := u D } s e1 fun σ' H1' H' sm s' => q' B1 B H1' H' σ' ρ' fs D s' e k
  | rt d => cases e
  | bk ρ' => cases e
  | ct ρ' => cases e
def fnT (CR : Addr) (m : Nat) (fb : En → Option Fs) (fs : Fs) : Option Fs := fb (some (.fo CR fs) :: List.replicate m none)
end
section
variable {P : Program} {w : World} {K : PySem.W.Frag} {mg : Str → Option Value} {base : Heap} {CR : Addr}
theorem okT {x q : Str} {st : Stmt} {f : Addr} {fd : FuncData} {N ps : List Str} {k : Nat} {fb : En → Option Fs} (m : Nat) (F : Fun K x q st f fd) (S : FnScope N ps (defScope st)) (hn : ps.length = 1) (hNm : N.length = 1 + m)
    (body : ∀ (cdv : Value) (A : Around) (outer : List Env) (s : Shared) (H : Hp) (E : XK), Room k (A.deeper (envOfC q (defScope st) s.heap.objs.size f cdv)) → DRs (cxOf CX0 P w K mg base N q (defScope st) f cdv A outer s H E).nox CR (defBody st) fb) :
    FnOk P w K mg base CX0 (k + 1) f fd ps (spT K CR (fnT CR m fb)) := by
  refine F.ok S (fun vs H Q E h => h.1.trans hn.symm) (fun cdv A outer s H vs Q E hr h => ?_)
  obtain ⟨hl, H1, a, dx, fsV, fs, fs', rfl, sm, ha, hd, hfl, fd', e, k1⟩ := h
  obtain ⟨t, p, q⟩ := body cdv A outer s H E hr
  refine ⟨t, p, ?_⟩
  have hst : L2.start N [V.ref a] = some (V.ref a) :: (([] : List V).map some ++ List.replicate m none) := by
    unfold L2.start
    rw [show N.length - [V.ref a].length = m by simp; omega]
    rfl
  rw [hst]
  have sk := sok_startO (m := m) (ds := []) (w := .fo CR fs) sm .nil ⟨a, dx, fsV, rfl, ha, hd, hfl, fd'⟩
  have s0 : Sst K H1 H H1 H (some (V.ref a) :: (([] : List V).map some ++ List.replicate m none)) (some (.fo CR fs) :: (([] : List PyData).map (fun d => some (W.im d)) ++ List.replicate m none)) := by
    refine ⟨sk, sm, .refl sm, fun i w v b e _ o => ?_⟩
    cases i with
    | zero => cases e; exact o.elim
    | succ i => cases List.eq_of_mem_replicate (List.mem_of_getElem? (show (List.replicate m (none : Option W))[i]? = _ from e))
  exact q H1 H H1 H _ _ fs' _ s0 e fun a' dx' H1' H' x hI n1 n2 => k1 a' dx' H1' H' x hI n1 n2
structure CalT (P : Program) (w : World) (K : PySem.W.Frag) (mg : Str → Option Value) (base : Heap) (CR : Addr) (k : Nat) (m : Str) (g : Fs → Option Fs) : Prop where
  ex : ∃ (f : Addr) (fd : FuncData) (ps : List Str), FnOk P w K mg base CX0 k f fd ps (spT K CR g) ∧ Meth K CR m f ∧ Binds K fd ps []
end
section
variable {X : Cx} {pos p apos pos2 : Pos} {x m y : Str} {CR : Addr} {k j : Nat} {gt : Fs → Option Fs}
def sTw (i l : Nat) (CR : Addr) (m : Str) (g : Fs → Option Fs) : En → Option Out := fun ρ => if isOb i ρ = true then (foOf i CR (frO i ρ)).bind fun fl => if fl.lookup m = none then (g fl).map fun fs' => .nx (ρ.set l (some (.ob CR fs'))) else none else none
theorem ds_twin (i l : Nat) {pl : Sem Bool} {py : Pos} (hNd : X.N.Nodup) (hC : Cls X.K CR) (c : CalT X.prog X.w X.K X.mg X.base CR k m gt) (hr : Room j X.A) (hk : k ≤ j) (hN : X.N[i]? = some x := by rfl) (hv : Vis X.env.scope x := by first | exact Or.inl rfl | exact Or.inr (Or.inl rfl) | exact Or.inr (Or.inr rfl)) (hd : (x == ("__debug__" : Str)) = false := by decide)
    (hcd : (x == ("__classdict__" : Str)) = false := by decide)
    (hi : X.N[l]? = some y := by rfl) (hx : Loc X.env.scope y := by first | exact Or.inl rfl | exact Or.inr rfl) (hs : swapsWith (.Call (.Attribute (.Name x p) m apos) [] [] pos) (some (.Name y py)) pos2.line X.env = pure false := by rfl) (hf : X.fn y = true ∨ X.env.scope.names.lookup y = some .local := by first | exact .inl rfl | exact .inr rfl)
    (ht : eval (.Call (.Attribute (.Name x p) m apos) [] [] pos) X.env = (do
      let ov ← eval (.Name x p) X.env
      standAt apos.atName
      let (f, first) ← holding [ov] (getMethod ov m pl)
      callWith pos f first (backTo pos (starEach [] X.env)) (backToKw pos (keywordEach [] X.env))) := by rfl) :
    DS X (.Assign [.Name y py] (.Call (.Attribute (.Name x p) m apos) [] [] pos) pos2) (sTw i l CR m gt) := by
  obtain ⟨f, fd, ps, F, hm, b⟩ := c.ex
  refine ⟨_, ps_set hNd hi hx (pe_meth0 (E := E0) (pe_var hN hv hd hcd) hC hm F (hr.mono hk) b .nil pass0 ht) hs hf, fun B1 B H1 H σ ρ o D s h k => ?_⟩
  obtain ⟨hi, h⟩ := of_ite h
  obtain ⟨fl, h1, h⟩ := bind_some h
  obtain ⟨h2, h⟩ := of_ite h
  obtain ⟨fs', h3, rfl⟩ := map_some h
  obtain ⟨S, s1, s2, s3⟩ := s.sok.frO hi
  obtain ⟨a, dx, fsV, e1, q1, q2, q3, q4⟩ := s3.foObj h1
  refine ⟨_, e1, a, dx, fsV, rfl, s3.sub _ _ q1, fden_none q4 h2, ?_⟩
  refine ⟨rfl, _, a, dx, fsV, fl, fs', rfl, s3.sub, q1, q2, q3, q4, h3, fun a' dx' H1' H' x hI n1 n2 => ?_⟩
  have x2 := ext_cut s.sok.sub s1 x
  obtain ⟨fsV', w1, w2, w3, w4, w5, w6⟩ := hI
  have hS : ∀ a ∈ S, ∃ o, H1' a = some o ∧ IsObj o := fun a ha => by
    obtain ⟨o, ho, hi⟩ := s2 a ha
    exact ⟨o, x.st a _ (by unfold addH; rw [if_pos ha]; exact ho), hi⟩
  refine k _ _ _ x2.st (s.setM l x2 (fun b ob => ?_) ⟨a', dx', rfl, fsV', w1, w2, ?_, ?_, w5, fden_cutO hS w6⟩)
  · rcases ob with ob | ⟨a2, dx2, fsV2, ob, e', rfl⟩
    · cases ob
      exact n1
    · cases ob
      rw [w1] at e'
      cases e'
      exact n2
  · unfold cutH
    split
    · rfl
    · exact w3
  · unfold cutH
    split
    · rfl
    · exact w4
end
end Dv

/-! a comprehension whose elements change instances -/
namespace Dv
open PySem PySem.Spec PyProof.Rows L2
section
variable {K : PySem.W.Frag} {B1 B H1 H : Hp} {σ : L2.St} {ρ : En} {D : Addr} {o : HO}
theorem Sst.setN (s : Sst K B1 B H1 H σ ρ) (i : Nat) : Sst K B1 B H1 H (σ.set i none) (ρ.set i none) := by
  have cs : ∀ {α : Type} {l : List (Option α)} {j : Nat} {u}, (l.set i none)[j]? = some (some u) → i ≠ j ∧ l[j]? = some (some u) := fun {α l j u} e => by
    by_cases hj : i = j
    · subst hj
      have hl : i < l.length := by
        have := (List.getElem?_eq_some_iff.mp e).1
        rwa [List.length_set] at this
      rw [List.getElem?_set_self hl] at e
      cases e
    · rw [List.getElem?_set_ne hj] at e
      exact ⟨hj, e⟩
  exact ⟨s.sok.setN i, s.bs, s.fr, fun j w v b e f ob => s.own j w v b (cs e).2 (cs f).2 ob⟩
theorem Sst.wipe (s : Sst K B1 B H1 H σ ρ) : ∀ vs : List Nat, Sst K B1 B H1 H (wipe σ vs) (wipeE ρ vs)
  | [] => s
  | v :: vs => (Sst.wipe s vs).setN v
theorem Sst.setAll : ∀ {is : List Nat} {vs : List V} {ds : List PyData} {σ : L2.St} {ρ : En}, Sst K B1 B H1 H σ ρ → DenL K H1 vs ds → Sst K B1 B H1 H (Dv.setAll σ is vs) (setAllW ρ is ds)
  | [], _, _, _, _, s, _ => by unfold setAllW Dv.setAll; exact s
  | i :: is, _, [], _, _, s, h => by cases h; exact s
  | i :: is, _, d :: ds, σ, ρ, s, h => by
    cases h with
    | @cons v vs _ _ a b => exact Sst.setAll (σ := σ.set i (some v)) (ρ := ρ.set i (some (.im d))) (Sst.set s i a) b
theorem Sst.unwipe {vs : List Nat} (s : Sst K B1 B H1 H (L2.wipe σ vs) ρ) : Sst K B1 B H1 H σ ρ := by
  have bk : ∀ {i : Nat} {w : W} {v : V}, ρ[i]? = some (some w) → σ[i]? = some (some v) → (L2.wipe σ vs)[i]? = some (some v) := fun {i w v} e f => by
    obtain ⟨v', g, _⟩ := s.sok.at_ i w e
    rw [(wipe_some g).1] at f
    cases f
    exact g
  refine ⟨⟨s.sok.sub, by rw [← s.sok.len, wipe_length], fun i w e => ?_, fun i j w w' v v' b e1 e2 f1 f2 o1 o2 => s.sok.inj i j w w' v v' b e1 e2 (bk e1 f1) (bk e2 f2) o1 o2⟩, s.bs, s.fr, fun i w v b e f ob => s.own i w v b e (bk e f) ob⟩
  obtain ⟨v', g, q⟩ := s.sok.at_ i w e
  exact ⟨v', (wipe_some g).1, q⟩
/-- a thing that no slot owns is new, or changed: the base goes with it -/
theorem Sst.base (s : Sst K B1 B H1 H σ ρ) (n : H1 D = none) (far : ∀ (i : Nat) w v b, ρ[i]? = some (some w) → σ[i]? = some (some v) → Owned H v b w → b ≠ D) {o : HO} : Sst K B1 (upd B D o) H1 (upd H D o) σ ρ := by
  have bk : ∀ {j : Nat} {u v' b}, ρ[j]? = some (some u) → σ[j]? = some (some v') → Owned (upd H D o) v' b u → Owned H v' b u := fun {j u v' b} e2 f2 o2 => by
    obtain ⟨v1, f1, q1⟩ := s.sok.at_ j u e2
    rw [f2] at f1
    cases f1
    refine o2.back q1 fun c x hv hc => ?_
    have ho : Owned H v' c u := by
      cases u with
      | im d => exact o2
      | xo a c => exact o2
      | fo C fs => exact o2
      | so C a' dx fs =>
        refine ⟨o2.1, .inl ?_⟩
        have e := hv.symm.trans o2.1
        cases e
        rfl
      | ob C fs => exact .inl hv
      | ml ds => exact hv
      | md ds => exact hv
      | mm rows => exact .inl hv
    rw [upd_ne (far j u v' c e2 f2 ho)]
    exact hc
  have nB : B1 D = none := s.fr.st.free n
  refine ⟨⟨fun b x z => ?_, s.sok.len, fun j u e2 => ?_, fun j l u u' v1 v2 b e1 e2 f1 f2 o1 o2 => s.sok.inj j l u u' v1 v2 b e1 e2 f1 f2 (bk e1 f1 o1) (bk e2 f2 o2)⟩, fun b x z => ?_, ⟨s.fr.st, fun b x z => ?_, fun b x z y => ?_⟩, fun j u v1 b e2 f2 o2 => ?_⟩
  · rw [upd_ne (ne_of_none z n)]; exact s.sok.sub _ _ z
  · obtain ⟨v1, f, z⟩ := s.sok.at_ j u e2
    exact ⟨v1, f, z.upd fun b ob => far j u v1 b e2 f ob⟩
  · rw [upd_ne (ne_of_none z nB)]; exact s.bs _ _ z
  · rw [upd_ne (ne_of_none z n)]; exact s.sok.sub _ _ z
  · by_cases hb : b = D
    · subst hb
      rw [upd_same] at z ⊢
      exact ⟨n, z⟩
    · rw [upd_ne hb] at z ⊢
      exact s.fr.fr b x z y
  · have ob := bk e2 f2 o2
    rw [upd_ne (far j u v1 b e2 f2 ob)]
    exact s.own j u v1 b e2 f2 ob
theorem Sst.baseNew (s : Sst K B1 B H1 H σ ρ) (n : H D = none) {o : HO} : Sst K B1 (upd B D o) H1 (upd H D o) σ ρ :=
  s.base (s.sok.sub.free n) fun i w v b e f ob => by
    obtain ⟨v', g, q⟩ := s.sok.at_ i w e
    rw [f] at g
    cases g
    obtain ⟨x, hx, _⟩ := ob.at_ q
    exact ne_of_none hx n
theorem Sst.baseSet (s : Sst K B1 B H1 H σ ρ) (h : B D = some o) (n : H1 D = none) {o' : HO} : Sst K B1 (upd B D o') H1 (upd H D o') σ ρ :=
  s.base n fun i w v b e f ob z => by
    have := s.own i w v b e f ob
    rw [z, h] at this
    cases this
/-- a base that says less -/
theorem Sst.lessBase {B0 : Hp} (s : Sst K B1 B0 H1 H σ ρ) (le : Same B B0) (bs : Same B1 B) : Sst K B1 B H1 H σ ρ :=
  ⟨s.sok, bs, ⟨s.fr.st, s.fr.sub, fun b o z y => s.fr.fr b o (le _ _ z) y⟩, fun i w v b e f ob => le.free (s.own i w v b e f ob)⟩
/-- a thing of the base becomes stable; the rest of the base stays -/
theorem Sst.stabB {B0 : Hp} (s : Sst K B1 B0 H1 H σ ρ) (le : Same B B0) (bs : Same B1 B) (h : B0 D = some o) (nB : B D = none) (n : H1 D = none) : Sst K B1 B (upd H1 D o) H σ ρ ∧ Same H1 (upd H1 D o) := by
  have hD : H D = some o := (s.fr.fr D o h (s.fr.st.free n)).2
  have sm : Same H1 (upd H1 D o) := same_new n
  have far : ∀ (i : Nat) w v b, ρ[i]? = some (some w) → σ[i]? = some (some v) → Owned H v b w → b ≠ D := fun i w v b e f ob z => by
    have := s.own i w v b e f ob
    rw [z, h] at this
    cases this
  have ad : upd H1 D o = addH H1 H [D] := by
    funext b
    unfold addH
    by_cases hb : b = D
    · subst hb
      rw [upd_same, if_pos (by simp), hD]
    · rw [upd_ne hb, if_neg (by simp [hb])]
  have sb : Same (upd H1 D o) H := fun b x z => by
    by_cases hb : b = D
    · subst hb; rw [upd_same] at z; rw [← z]; exact hD
    · rw [upd_ne hb] at z; exact s.sok.sub _ _ z
  refine ⟨⟨⟨sb, s.sok.len, fun i w e => ?_, s.sok.inj⟩, bs, ⟨s.fr.st.trans sm, sb, fun b x z y => ?_⟩, fun i w v b e f ob => le.free (s.own i w v b e f ob)⟩, sm⟩
  · obtain ⟨v, f, q⟩ := s.sok.at_ i w e
    refine ⟨v, f, ?_⟩
    rw [ad] at sm ⊢
    exact q.stab sm fun b ob hb => far i w v b e f ob (by simpa using hb)
  · obtain ⟨z1, z2⟩ := s.fr.fr b x (le _ _ z) y
    rw [upd_ne (ne_of_none z nB)]
    exact ⟨z1, z2⟩
end
def rdEM (K : PySem.W.Frag) (f : En → Option (PyData × En)) : TE := fun σ H Q => ∃ (B1 B H1 : Hp) (ρ : En) (d : PyData) (ρ' : En), Sst K B1 B H1 H σ ρ ∧ f ρ = some (d, ρ') ∧ ∀ v H1' H', Same H1 H1' → Sst K B1 B H1' H' σ ρ' → Den K H1' v d → Q v H'
theorem DEM.pe {X : Cx} {e : Expr} {f : En → Option (PyData × En)} (h : DEM X e f) : PE X e (rdEM X.K f) := by
  obtain ⟨t, p, q⟩ := h
  exact ⟨fun pins s σ H Q I ⟨B1, B, H1, ρ, d, ρ', sk, hf, k⟩ => p.run pins s σ H Q I (q B1 B H1 H σ ρ d ρ' Q sk hf k)⟩
def lcM (spl : PyData → Option (List PyData)) (is own : List Nat) (fe : En → Option (PyData × En)) : En → List PyData → Option (List PyData × En)
  | ρ, [] => some ([], ρ)
  | ρ, d :: ds => (spl d).bind fun xs => (fe (setAllW (wipeE ρ own) is xs)).bind fun z => (lcM spl is own fe (wipeE z.2 own) ds).map fun r => (z.1 :: r.1, r.2)
def qLc (fi : En → Option (List PyData)) (spl : PyData → Option (List PyData)) (is own : List Nat) (fe : En → Option (PyData × En)) : En → Option (PyData × En) := fun ρ => (fi ρ).bind fun ds => (lcM spl is own fe ρ ds).map fun r => (.list r.1, r.2)
theorem lcM_read {K : PySem.W.Frag} {wi : TI} {fi : En → Option (List PyData)} {spl : PyData → Option (List PyData)} {is own : List Nat} {fe : En → Option (PyData × En)}
    (qi : ∀ (σ : L2.St) (H1 H : Hp) (ρ : En) (ds : List PyData) (R : It → Hp → Prop), Sok K H1 H σ ρ → fi ρ = some ds → (∀ J H1' H', Ext H1 H H1' H' → ds.length ≤ sizeLine → Walks K J H1' ds → R J H') → wi σ H R)
    (hown : ∀ i ∈ is, i ∈ own) {σ : L2.St} {B1 B H1 H : Hp} {ρ ρ' : En} {d : PyData} {Q : VK} (s : Sst K B1 B H1 H σ ρ) (e : qLc fi spl is own fe ρ = some (d, ρ'))
    (k : ∀ v H1' H', Same H1 H1' → Sst K B1 B H1' H' σ ρ' → Den K H1' v d → Q v H') : tLc wi (rdG K is spl) (rdTs K tYesD) (rdEM K fe) own σ H Q := by
  obtain ⟨ds, e1, e9⟩ := bind_some e
  obtain ⟨⟨rs, ρz⟩, e0, ez⟩ := map_some e9
  cases ez
  refine qi σ H1 H ρ ds _ s.sok e1 fun J Hi H' x hl wk => fun D nD => ?_
  have si := s.ext x
  have nB : B D = none := si.same.free nD
  refine ⟨fun i m H2 => m = ds.length - i ∧ ∃ H12 Bi ρc acc accd rest, Bi D = some (.lst acc) ∧ Same B Bi ∧ Sst K B1 Bi H12 H2 σ ρc ∧ H12 D = none ∧ Same Hi H12 ∧ DenL K H12 acc accd ∧ accd.length ≤ i ∧ i ≤ ds.length ∧ lcM spl is own fe ρc (ds.drop i) = some (rest, ρz) ∧ accd ++ rest = rs, ⟨_, rfl, Hi, upd B D (.lst []), ρ, [], [], rs, upd_same, same_new nB, si.baseNew nD, x.sub.free nD, .refl _, .nil, Nat.le_refl _, Nat.zero_le _, by rw [List.drop_zero]; exact e0, rfl⟩, ?_⟩
  rintro i m H2 ⟨rfl, H12, Bi, ρc, acc, accd, rest, hD, hB, s2, hD1, sm, dl, hli, hile, e2, e3⟩
  obtain ⟨w1, w2⟩ := wk H12 H2 sm s2.sok.sub i
  by_cases hi : i < ds.length
  · right
    rw [List.drop_eq_getElem_cons hi] at e2
    obtain ⟨go, yl⟩ := w1 ds[i] (List.getElem?_eq_getElem hi)
    obtain ⟨xs, e4, e2⟩ := bind_some e2
    obtain ⟨⟨y, ρy⟩, e5, e2⟩ := bind_some e2
    obtain ⟨⟨r, ρr⟩, e6, e7⟩ := map_some e2
    refine ⟨go, fun H3 => ∃ H13 Bi ρc acc accd rest, Bi D = some (.lst acc) ∧ Same B Bi ∧ Sst K B1 Bi H13 H3 σ ρc ∧ H13 D = none ∧ Same Hi H13 ∧ DenL K H13 acc accd ∧ accd.length ≤ i + 1 ∧ i + 1 ≤ ds.length ∧ lcM spl is own fe ρc (ds.drop (i + 1)) = some (rest, ρz) ∧ accd ++ rest = rs, fun H3 z => ⟨ds.length - (i + 1), by omega, rfl, z⟩, fun v H3 y0 => ?_⟩
    obtain ⟨H13, x3, dv⟩ := yl v H3 y0
    refine ⟨H13, ds[i], xs, x3.sub, dv, e4, fun vs dvs => ?_⟩
    have hw : wipe (setAll (wipe σ own) is vs) own = wipe σ own := by rw [wipe_setAll hown, wipe_wipe]
    refine ⟨hw, ?_⟩
    have s3 : Sst K B1 Bi H13 H3 (setAll (wipe σ own) is vs) (setAllW (wipeE ρc own) is xs) := ((s2.ext x3).wipe own).setAll dvs
    refine ⟨H13, _, true, s3.sok, rfl, fun H14 H4 x4 => ?_⟩
    have s4 := s3.ext x4
    dsimp only
    rw [if_pos rfl]
    refine ⟨B1, Bi, H14, _, y, ρy, s4, e5, fun w H15 H5 x5 s5 dw => ?_⟩
    obtain ⟨n5, h5⟩ := s5.fr.fr D _ hD (s.fr.st.free (x.st.free (sm.free hD1)))
    have lacc : acc.length = accd.length := dl.length
    refine ⟨acc, h5, by omega, ?_⟩
    have s6 : Sst K B1 Bi H15 H5 σ (wipeE ρy own) := by
      have := s5.wipe own
      rw [hw] at this
      exact this.unwipe
    cases e7
    refine ⟨H15, upd Bi D (.lst (acc ++ [w])), wipeE ρy own, acc ++ [w], accd ++ [y], r, upd_same, fun b o z => ?_, s6.baseSet hD n5, n5, ((sm.trans x3.st).trans x4.st).trans x5, (DenL.mono ((x3.st.trans x4.st).trans x5) _ _ dl).append (.one dw), by rw [List.length_append]; exact Nat.add_le_add_right hli 1, hi, e6, ?_⟩
    · rw [upd_ne (ne_of_none z nB)]; exact hB _ _ z
    · rw [← e3, List.append_assoc]; rfl
  · left
    have hie : i = ds.length := by omega
    rw [List.drop_eq_nil_of_le (by omega)] at e2
    cases e2
    rw [List.append_nil] at e3
    subst e3
    refine ⟨w2 (by omega), ?_⟩
    obtain ⟨s7, sm7⟩ := s2.stabB hB s.bs hD nB hD1
    exact k _ _ H2 ((x.st.trans sm).trans sm7) s7 (.lst (.of upd_same) (by show accd.length ≤ sizeLine; omega) (DenL.mono sm7 _ _ dl))
section
variable {X : Cx} {pos : Pos} {tg : Expr}
theorem dem_lc {elt iter : Expr} {scope : Scope} {own : List (Str × Nat)} {fi : En → Option (List PyData)} {spl : PyData → Option (List PyData)} {is ow : List Nat} {fe : En → Option (PyData × En)} (hc : X.calm = true) (hN : X.N.Nodup) (hi : DI X tg iter fi) (ok : BlkOk X.N X.env.scope scope own)
    (hg : ∀ (s : Shared) (H : Hp) (C : Addr) (cl : List (Str × Addr)) (fp : List Addr), DGc (X.blk s H scope (compEnvC scope cl C X.env) fp) tg is spl)
    (he : ∀ (s : Shared) (H : Hp) (C : Addr) (cl : List (Str × Addr)) (fp : List Addr), DEM (X.blk s H scope (compEnvC scope cl C X.env) fp) elt fe) (how : own.map (·.2) = ow := by rfl) (hown : ∀ i ∈ is, i ∈ ow := by decide) (hs : ∀ x, foldedSetIterable iter X.env x = pure x := by intro _; rfl) :
    DEM X (.ListComp elt [⟨tg, iter, [], 0⟩] scope pos) (qLc fi spl is ow fe) := by
  subst how
  obtain ⟨wi, pi, qi⟩ := hi
  refine ⟨_, pe_lc (g := rdG X.K is spl) (tt := rdTs X.K tYesD) (te := rdEM X.K fe) hc hN pi ok (fun s H C cl fp => (hg s H C cl fp).pg) (fun s H C cl fp => (dts_nil).pt) (fun s H C cl fp => (he s H C cl fp).pe) hs, fun B1 B H1 H σ ρ d ρ' Q s e k => ?_⟩
  exact lcM_read qi hown s e k
/-- name = [..] where the model stores within the comprehension -/
theorem ds_setLcE (i : Nat) {y : Str} {py spos : Pos} {elt iter : Expr} {scope : Scope} {own : List (Str × Nat)} {fi : En → Option (List PyData)} {spl : PyData → Option (List PyData)} {is ow : List Nat} {fe : En → Option (PyData × En)} (hc : X.calm = true) (hN : X.N.Nodup) (hi : DI X tg iter fi) (ok : BlkOk X.N X.env.scope scope own)
    (hg : ∀ (s : Shared) (H : Hp) (C : Addr) (cl : List (Str × Addr)) (fp : List Addr), DGc (X.blk s H scope (compEnvC scope cl C X.env) fp) tg is spl)
    (he : ∀ (s : Shared) (H : Hp) (C : Addr) (cl : List (Str × Addr)) (fp : List Addr), DEM (X.blk s H scope (compEnvC scope cl C X.env) fp) elt fe) (hsw : swapsWith (.ListComp elt [⟨tg, iter, [], 0⟩] scope pos) (some (.Name y py)) spos.line X.env = pure true) (hy : X.N[i]? = some y := by rfl) (hyl : X.env.scope.names.lookup y = some .local := by rfl) (how : own.map (·.2) = ow := by rfl) (hown : ∀ i ∈ is, i ∈ ow := by decide) (hs : ∀ x, foldedSetIterable iter X.env x = pure x := by intro _; rfl) :
    DS X (.Assign [.Name y py] (.ListComp elt [⟨tg, iter, [], 0⟩] scope pos) spos) (sSetM i (qLc fi spl is ow fe)) := by
  subst how
  obtain ⟨wi, pi, qi⟩ := hi
  refine ⟨_, ps_setLc (g := rdG X.K is spl) (tt := rdTs X.K tYesD) (te := rdEM X.K fe) hc hN hy hyl hsw pi ok (fun s H C cl fp => (hg s H C cl fp).pg) (fun s H C cl fp => (dts_nil).pt) (fun s H C cl fp => (he s H C cl fp).pe) hs, fun B1 B H1 H σ ρ o D s e k => ?_⟩
  obtain ⟨⟨d, ρ0⟩, e1, rfl⟩ := map_some e
  exact lcM_read qi hown s e1 fun v H1' H' s1 s' dv => k _ H1' H' s1 (s'.set i dv)
/-! ### values: or, and, in -/
variable {a b : Expr} {rest : List Expr} {f fa fb : En → Option PyData} {fm : En → Option (PyData × En)}
theorem dem_cmpV {op : CmpOp} {r : R2} {g : PyData → PyData → Option PyData} (ho : OpR X (compareOp op) r) (hr : V2 X.K r g) (ha : DEM X a fm) (hb : DE X b fb) (hm : behindInMarks op b = false) : DEM X (.Compare a [op] [b] pos) (q2 g fm fb) := by
  obtain ⟨ta, pa, qa⟩ := ha
  obtain ⟨tb, pb, qb⟩ := hb
  refine ⟨_, pe_cmpR ho pa pb hm, fun B1 B H1 H σ ρ d ρ' Q s h k => ?_⟩
  obtain ⟨⟨d1, ρ1⟩, h1, h⟩ := bind_some h
  obtain ⟨d2, h2, h⟩ := bind_some h
  obtain ⟨d3, h3, h⟩ := map_some h
  cases h
  refine qa B1 B H1 H σ ρ d1 ρ1 _ s h1 fun v H1' H' s1 s' dv => qb σ H1' H' ρ1 d2 _ s'.sok h2 fun y H2 H2' x2 dy => ?_
  exact hr v y d1 d2 _ H2 H2' _ x2.sub (Den.mono x2.st _ _ dv) dy h3 fun w H3 H3' x3 dw => k w H3 H3' ((s1.trans x2.st).trans x3.st) ((s'.ext x2).ext x3) dw
theorem dem_one {op} (h : DEM X a fm) : DEM X (.BoolOp op [a] pos) fm := let ⟨t, p, q⟩ := h; ⟨t, pe_one p, q⟩
def mAndV (ma mb : En → Option (PyData × En)) : En → Option (PyData × En) := fun ρ => (ma ρ).bind fun z => (asB z.1).bind fun b => if b = true then mb z.2 else some (.bool false, z.2)
def mOrV (ma mb : En → Option (PyData × En)) : En → Option (PyData × En) := fun ρ => (ma ρ).bind fun z => (asB z.1).bind fun b => if b = true then some (.bool true, z.2) else mb z.2
variable {fn : En → Option (PyData × En)}
theorem dem_and (h : DEM X a fm) (h' : DEM X (.BoolOp .And (b :: rest) pos) fn) : DEM X (.BoolOp .And (a :: b :: rest) pos) (mAndV fm fn) := by
  obtain ⟨t, p, q⟩ := h
  obtain ⟨t', p', q'⟩ := h'
  refine ⟨_, pe_and p p', fun B1 B H1 H σ ρ d ρ' Q s h k => ?_⟩
  obtain ⟨⟨d0, ρ0⟩, h1, h⟩ := bind_some h
  obtain ⟨c, h2, h⟩ := bind_some h
  have e := asB_some h2
  have e : d0 = .bool c := e
  subst e
  refine q B1 B H1 H σ ρ _ ρ0 _ s h1 fun v H1' H' s1 s' dv => ⟨c, den_bl dv, ?_⟩
  cases c with
  | true => exact q' B1 B H1' H' σ ρ0 d ρ' Q s' h fun v H2 H2' s2 => k _ _ _ (s1.trans s2)
  | false =>
    cases h
    exact k _ _ _ s1 s' (.bl _)
theorem dem_or (h : DEM X a fm) (h' : DEM X (.BoolOp .Or (b :: rest) pos) fn) : DEM X (.BoolOp .Or (a :: b :: rest) pos) (mOrV fm fn) := by
  obtain ⟨t, p, q⟩ := h
  obtain ⟨t', p', q'⟩ := h'
  refine ⟨_, pe_or p p', fun B1 B H1 H σ ρ d ρ' Q s h k => ?_⟩
  obtain ⟨⟨d0, ρ0⟩, h1, h⟩ := bind_some h
  obtain ⟨c, h2, h⟩ := bind_some h
  have e := asB_some h2
  have e : d0 = .bool c := e
  subst e
  refine q B1 B H1 H σ ρ _ ρ0 _ s h1 fun v H1' H' s1 s' dv => ⟨c, den_bl dv, ?_⟩
  cases c with
  | false => exact q' B1 B H1' H' σ ρ0 d ρ' Q s' h fun v H2 H2' s2 => k _ _ _ (s1.trans s2)
  | true =>
    cases h
    exact k _ _ _ s1 s' (.bl _)
end
structure CalI (P : Program) (w : World) (K : PySem.W.Frag) (mg : Str → Option Value) (base : Heap) (CR : Addr) (k n : Nat) (g : GM) : Prop where
  ex : ∃ (f : Addr) (fd : FuncData) (ps : List Str), FnOk P w K mg base (L2.CX P w) k f fd ps (spM K mg CR n g) ∧ Mk K CR f ∧ Binds K fd ps []
theorem ds_makeI {X : Cx} {e : Expr} {es : List Expr} {fs : En → Option (List PyData)} {pos p pos2 : Pos} {x y : Str} {CR : Addr} {k j n : Nat} {g : GM} (i : Nat) {py : Pos} (hN : X.N.Nodup) (c : CalI X.prog X.w X.K X.mg X.base CR k n g) (hr : Room j X.A) (hk : k + 1 ≤ j) (hg : Gl X x) (hm : X.mg x = some (.ref CR)) (ha : DA X (e :: es) fs) (hn : ∀ ρ ds, fs ρ = some ds → ds.length = n)
    (hdb : (x == ("__debug__" : Str)) = false := by decide) (he : starEach (e :: es) X.env = (false, eval e X.env) :: starEach es X.env := by rfl) (hpl : (backTo pos (starEach es X.env)).any (·.1) = false := by rfl)
    (hi : X.N[i]? = some y := by rfl) (hx : Loc X.env.scope y := by first | exact Or.inl rfl | exact Or.inr rfl) (hs : swapsWith (.Call (.Name x p) (e :: es) [] pos) (some (.Name y py)) pos2.line X.env = pure false := by rfl) (hf : X.fn y = true ∨ X.env.scope.names.lookup y = some .local := by first | exact .inl rfl | exact .inr rfl) :
    DS X (.Assign [.Name y py] (.Call (.Name x p) (e :: es) [] pos) pos2) (sMk i CR g fs) := by
  obtain ⟨f, fd, ps, F, M, b⟩ := c.ex
  exact ds_make i hN M F hr hk hg hm b ha hn hdb he hpl hi hx hs hf
def notB (d e : PyData) : Option PyData := match d, e with
  | .bool a, .bool b => some (.bool (!decide (a = b)))
  | _, _ => none
theorem v_notB {K : PySem.W.Frag} : V2 K rNotB notB := by
  intro x y d e c H1 H Q sm dx dy h k
  unfold notB at h
  split at h
  · cases h
    cases dx
    cases dy
    exact ⟨_, _, rfl, rfl, k _ H1 H (.refl sm) (.bl _)⟩
  · cases h
end Dv

/-! a def that tries methods that may raise; the caught error's class asked, also of a tuple of classes -/
namespace Dv
open PySem PySem.Spec PyProof.Rows L2
/-! ### o.m(..), its exception at the slots -/
section
variable {X : Cx} {CX : CXT} {k : Nat} {f C : Addr} {fd : FuncData} {ps : List Str} {sp : Sp} {E : L2.St → XK} {m : Str} {p pos apos : Pos} {e o : Expr} {es : List Expr} {ta : TE} {t : TA}
def tMethS (C : Addr) (m : Str) (sp : Sp) (E : L2.St → XK) (ta : TE) (t : TA) : TE := fun σ H Q => ta σ H fun x H1 => ∃ a dx fs, x = .ref a ∧ H1 a = some (.ins C dx fs) ∧ fs.lookup m = none ∧ t σ H1 fun vs H2 => sp (x :: vs) H2 Q (E σ)
theorem pe_methW {pl : Sem Bool} (he : PE X o ta) (c : Cls X.K C) (hm : Meth X.K C m f) (F : FnOk X.prog X.w X.K X.mg X.base CX k f fd ps sp) (hr : Room k X.A) (hb : Binds X.K fd ps []) (hx : ∀ σ, PassesAt CX X σ (E σ)) (ha : PA X (e :: es) t)
    (hst : starEach (e :: es) X.env = (false, eval e X.env) :: starEach es X.env := by rfl) (hpl : (backTo pos (starEach es X.env)).any (·.1) = false := by rfl)
    (ht : eval (.Call (.Attribute o m apos) (e :: es) [] pos) X.env = (do
      let ov ← eval o X.env
      standAt apos.atName
      let (f, first) ← holding [ov] (getMethod ov m pl)
      callWith pos f first (backTo pos (starEach (e :: es) X.env)) (backToKw pos (keywordEach [] X.env))) := by rfl) :
    PE X (.Call (.Attribute o m apos) (e :: es) [] pos) (tMethS C m sp E ta t) := by
  refine ⟨fun pins s σ H Q I h => ?_⟩
  refine PySem.W.methodCall_KW (pl := pl) (thn (he.run pins s σ H _ I h) fun u s1 ⟨x, H1, I1, rx, a, dx, fs, ex, ea, l, q⟩ => ?_) ht
  subst ex
  obtain rfl : u = Value.ref a := rx
  refine getmeth_ok I1 ea c hm l ?_
  refine PySem.W.callWith_K (first := [.ref a]) (h₀ := X.base) I.ok.mod.kin hm.kp (thn (ha.run pos pins s1 σ H1 _ I1 q) fun us s2 ⟨vs, H2, I2, r, q2⟩ => ⟨I2.kIn, ?_⟩) hst hpl
  exact run_fnS (us := .ref a :: us) (vs := .ref a :: vs) F hr hb (hx σ) I2 (.cons rfl r) q2
theorem pe_methW0 {pl : Sem Bool} (he : PE X o ta) (c : Cls X.K C) (hm : Meth X.K C m f) (F : FnOk X.prog X.w X.K X.mg X.base CX k f fd ps sp) (hr : Room k X.A) (hb : Binds X.K fd ps []) (hx : ∀ σ, PassesAt CX X σ (E σ))
    (ht : eval (.Call (.Attribute o m apos) [] [] pos) X.env = (do
      let ov ← eval o X.env
      standAt apos.atName
      let (f, first) ← holding [ov] (getMethod ov m pl)
      callWith pos f first (backTo pos (starEach [] X.env)) (backToKw pos (keywordEach [] X.env))) := by rfl) :
    PE X (.Call (.Attribute o m apos) [] [] pos) (tMethS C m sp E ta tNil) := by
  refine ⟨fun pins s σ H Q I h => ?_⟩
  refine PySem.W.methodCall_KW (pl := pl) (thn (he.run pins s σ H _ I h) fun u s1 ⟨x, H1, I1, rx, a, dx, fs, ex, ea, l, q⟩ => ?_) ht
  subst ex
  obtain rfl : u = Value.ref a := rx
  refine getmeth_ok I1 ea c hm l ?_
  exact PySem.W.callWith_K0 (first := [.ref a]) I1.kIn hm.kp (run_fnS (us := [.ref a]) (vs := [.ref a]) F hr hb (hx σ) I1 (.cons rfl .nil) q)
end
section
variable {X : Cx} {W : WX} {e : Expr} {es : List Expr} {fs : En → Option (List PyData)} {pos p apos pos2 : Pos} {x m : Str} {CR : Addr} {k j n : Nat} {g : GM}
def resM (ρ : En) : Res → OutM
  | .ok d => .rt d ρ
  | .ex c => .ex c ρ
/-- return o.m(..) -/
noncomputable def mRetX (i : Nat) (CR : Addr) (m : Str) (g : GM) (fs : En → Option (List PyData)) : En → Option OutM := fun ρ => (obOf i CR ρ).bind fun fl => if fl.lookup m = none then (fs ρ).bind fun ds => (allM g fl ds).bind fun rf => (setO i rf.2 ρ).map fun ρ' => resM ρ' rf.1 else none
theorem methX_read (i : Nat) {B1 B H1 H : Hp} {σ : L2.St} {ρ : En} {o : OutM} {D : Ends} {t : TA} (qa : ∀ (σ : L2.St) (H1 H : Hp) (ρ : En) (ds : List PyData) (Q : List V → Hp → Prop), Sok X.K H1 H σ ρ → fs ρ = some ds → (∀ vs H1' H', Ext H1 H H1' H' → DenL X.K H1' vs ds → Q vs H') → t σ H Q)
    (hn : ∀ ρ ds, fs ρ = some ds → ds.length = n) (s : Sst X.K B1 B H1 H σ ρ) (h : mRetX i CR m g fs ρ = some o) (k : EndsM X.K X.mg B1 B H1 D W o) :
    tMethS CR m (spM X.K X.mg CR n g) (WE W) (tVar i) t σ H (fun v H => D.rt v H) := by
  obtain ⟨fl, h1, h⟩ := bind_some h
  obtain ⟨h2, h⟩ := of_ite h
  obtain ⟨ds, h3, h⟩ := bind_some h
  obtain ⟨rf, h4, h⟩ := bind_some h
  obtain ⟨ρ', h6, h⟩ := map_some h
  obtain ⟨r, fl'⟩ := rf
  obtain ⟨a0, dx0, eσ, ⟨fsV, q1, q2, q3, q4, q5, q6⟩, _⟩ := s.obj h1
  refine ⟨_, eσ, a0, dx0, fsV, rfl, q1, fden_none q6 h2, qa σ H1 H ρ ds _ s.sok h3 fun vs H1' H' x1 dl => ?_⟩
  obtain ⟨a1, dx1, eσ', hI, up⟩ := (s.ext x1).obj h1
  rw [eσ] at eσ'
  cases eσ'
  refine ⟨by rw [List.length_cons, dl.length, hn _ _ h3], H1', a0, dx1, fl, vs, ds, r, fl', rfl, x1.sub, hI, dl, allM_some h4 a0 dx1, fun d2 e2 v H2 H2' x2 hI2 dv => ?_, fun c e2 C gC H2 H2' x2 hI2 => ?_⟩
  · subst e2
    subst h
    exact k v σ H2 H2' (x1.st.trans x2.st) (up H2 H2' fl' ρ' h6 x2 hI2) dv
  · subst e2
    subst h
    exact k C gC σ H2 H2' (x1.st.trans x2.st) (up H2 H2' fl' ρ' h6 x2 hI2)
theorem dm_retX (i : Nat) {pl : Sem Bool} (tk : Takes X W) (hC : Cls X.K CR) (c : CalM X.prog X.w X.K X.mg X.base CR k m n g) (hr : Room j X.A) (hk : k ≤ j) (ha : DA X (e :: es) fs) (hn : ∀ ρ ds, fs ρ = some ds → ds.length = n) (hN : X.N[i]? = some x := by rfl) (hv : Vis X.env.scope x := by first | exact Or.inl rfl | exact Or.inr (Or.inl rfl) | exact Or.inr (Or.inr rfl)) (hd : (x == ("__debug__" : Str)) = false := by decide)
    (hcd : (x == ("__classdict__" : Str)) = false := by decide)
    (hst : starEach (e :: es) X.env = (false, eval e X.env) :: starEach es X.env := by rfl) (hpl : (backTo pos (starEach es X.env)).any (·.1) = false := by rfl)
    (ht : eval (.Call (.Attribute (.Name x p) m apos) (e :: es) [] pos) X.env = (do
      let ov ← eval (.Name x p) X.env
      standAt apos.atName
      let (f, first) ← holding [ov] (getMethod ov m pl)
      callWith pos f first (backTo pos (starEach (e :: es) X.env)) (backToKw pos (keywordEach [] X.env))) := by rfl) : DM X W (.Return (some (.Call (.Attribute (.Name x p) m apos) (e :: es) [] pos)) pos2) (mRetX i CR m g fs) := by
  obtain ⟨f, fd, ps, F, hm, b⟩ := c.ex
  obtain ⟨t, pt, q⟩ := ha
  exact ⟨_, ps_ret (pe_methW (pe_var hN hv hd hcd) hC hm F (hr.mono hk) b (fun σ => passAt tk σ) pt hst hpl ht), fun B1 B H1 H σ ρ o D s h k => methX_read i q hn s h k⟩
theorem dm_retX0 (i : Nat) {pl : Sem Bool} (tk : Takes X W) (hC : Cls X.K CR) (c : CalM X.prog X.w X.K X.mg X.base CR k m 0 g) (hr : Room j X.A) (hk : k ≤ j) (hN : X.N[i]? = some x := by rfl) (hv : Vis X.env.scope x := by first | exact Or.inl rfl | exact Or.inr (Or.inl rfl) | exact Or.inr (Or.inr rfl)) (hd : (x == ("__debug__" : Str)) = false := by decide)
    (hcd : (x == ("__classdict__" : Str)) = false := by decide)
    (ht : eval (.Call (.Attribute (.Name x p) m apos) [] [] pos) X.env = (do
      let ov ← eval (.Name x p) X.env
      standAt apos.atName
      let (f, first) ← holding [ov] (getMethod ov m pl)
      callWith pos f first (backTo pos (starEach [] X.env)) (backToKw pos (keywordEach [] X.env))) := by rfl) : DM X W (.Return (some (.Call (.Attribute (.Name x p) m apos) [] [] pos)) pos2) (mRetX i CR m g eNil) := by
  obtain ⟨f, fd, ps, F, hm, b⟩ := c.ex
  exact ⟨_, ps_ret (pe_methW0 (pe_var hN hv hd hcd) hC hm F (hr.mono hk) b (fun σ => passAt tk σ) ht), fun B1 B H1 H σ ρ o D s h k => methX_read i (fs := eNil) (t := tNil) (fun σ H1 H ρ ds Q s h k => by cases h; exact k [] H1 H (.refl s.sub) .nil) len_nil s h k⟩
end
/-! ### try .. except C as e, the instance kept -/
open Classical in
noncomputable def allAM (F : Addr → Option OutM) : Option OutM := if h : ∃ o, ∀ a, F a = some o then some h.choose else none
theorem allAM_eq {F : Addr → Option OutM} {o : OutM} (h : ∀ a, F a = some o) : allAM F = some o := by
  have hh : ∃ o, ∀ a, F a = some o := ⟨o, h⟩
  unfold allAM
  rw [dif_pos hh]
  have := hh.choose_spec 0
  rw [h 0] at this
  exact this.symm
theorem allAM_some {F : Addr → Option OutM} {o : OutM} (h : allAM F = some o) (a : Addr) : F a = some o := by
  unfold allAM at h
  split at h
  · rename_i hh
    cases h
    exact hh.choose_spec a
  · cases h
def eraseM (i : Nat) : OutM → Option OutM
  | .rt d ρ => some (.rt d (ρ.set i none))
  | _ => none
noncomputable def tryAM (i : Nat) (sub : Str → Option Bool) (fsu : Str → Addr → En → Option OutM) : OutM → Option OutM
  | .ex cn ρ => (sub cn).bind fun b => if b = true then allAM fun a => (fsu cn a (ρ.set i (some (.xo a cn)))).bind (eraseM i) else none
  | o => some o
noncomputable def mTryA (i : Nat) (sub : Str → Option Bool) (fb : En → Option OutM) (fsu : Str → Addr → En → Option OutM) : En → Option OutM := fun ρ => (fb ρ).bind (tryAM i sub fsu)
section
variable {X : Cx} {W0 : WX} {x nm : Str} {c : Value} {body suite : List Stmt} {b₀ : Stmt} {np pos pos' : Pos} {fb : En → Option OutM} {sub : Str → Option Bool}
theorem dm_tryA (i : Nat) {fsu : Str → Addr → En → Option OutM} (hN : X.N.Nodup) (hs : X.stack = X.env :: X.outer) (hf : X.env.frame = some X.env.locals) (hc : Names X x c) (hb : ∀ (W : WX) (pn : List (Addr × Obj)) (xe : Value → Shared → Prop), Takes (X.tr pn xe) W → DMs (X.tr pn xe) W body fb)
    (hsu : ∀ cn C a oe pn, X.mg cn = some (.ref C) → sub cn = some true → Zc (.ref C) none oe → (∃ vs, oe.data = .fields vs) → DMs (X.suite a ((a, oe) :: pn)) (fun _ _ _ _ => False) (b₀ :: suite) (fsu cn a)) (hm : ∀ cn C b, X.mg cn = some (.ref C) → sub cn = some b → PySem.W.exmOne X.K (.ref C) c = some b)
    (hi : X.N[i]? = some nm := by rfl) (hln : X.env.kindOf nm = some .local := by rfl) :
    DM X W0 (.Try body [.ExceptHandler (some (.Name x np)) (some nm) (b₀ :: suite) pos'] [] [] pos) (mTryA i sub fb fsu) := by
  refine ⟨_, ps_try_as (i := i) (tb := fun W => rdMs X.K X.mg W fb) (ts := fun a cls d D σ H => ∃ cn C, cls = Value.ref C ∧ d = none ∧ X.mg cn = some (.ref C) ∧ sub cn = some true ∧ rdMs X.K X.mg (fun _ _ _ _ => False) (fsu cn a) D σ H) (Wout := fun _ _ _ _ => False) hs hf hN hi hln hc takes0 (fun W pn xe tk _ => (hb W pn xe tk).pss)
    (fun a oe cls d pn hz hf => ⟨fun pins s σ H D I ⟨cn, C, e1, e2, e3, e4, r⟩ => by
      subst e1
      subst e2
      exact ((hsu cn C a oe pn e3 e4 hz hf).pss).run pins s σ H D I r⟩), fun B1 B H1 H σ ρ o D s e k => ?_⟩
  obtain ⟨o1, e1, e⟩ := bind_some e
  refine ⟨B1, B, H1, ρ, o1, s, e1, ?_⟩
  cases o1 with
  | nx ρ' => cases e; exact k
  | rt d ρ' => cases e; exact k
  | ex cn ρ' =>
    obtain ⟨b, h1, h2⟩ := bind_some e
    intro C gC σ' H1' H' sm s'
    refine ⟨b, hm cn C b gC h1, fun hb a ha => ?_, fun hb => ?_⟩
    · subst hb
      obtain ⟨o2, h3, h4⟩ := bind_some (allAM_some (by simpa using h2) a)
      refine ⟨cn, C, rfl, rfl, gC, h1, B1, B, H1', _, o2, s'.setX i a cn, h3, ?_⟩
      cases o2 with
      | rt d ρ2 =>
        cases h4
        exact fun v σ2 H2 H2' sm2 s2 dv => k v (σ2.set i none) H2 H2' (sm.trans sm2) (s2.setN i) dv
      | nx ρ2 => cases h4
      | ex c2 ρ2 => cases h4
    · subst hb
      cases h2
end
/-! ### isinstance(e, (C, D)) -/
def rIsE2 (K : PySem.W.Frag) (D a : Addr) : List V → Hp → VK → Prop := fun xs H Q => ∃ (tp C1 C2 : Addr) (b : Bool), xs = [.ref a, .ref tp] ∧ H tp = some (.tup [.ref C1, .ref C2]) ∧ PySem.W.kitAny K (.ref D) [.ref C1, .ref C2] = some b ∧ Q (.bl b) H
theorem call_isE2 {X : Cx} {a D : Addr} {oe : Obj} {pn : List (Addr × Obj)} (C : ExcC X.K D) (hz : Zc (.ref D) none oe) (hf : ∃ vs, oe.data = .fields vs) : CallR (X.suite a ((a, oe) :: pn)) (.builtin "isinstance") (rIsE2 X.K D a) := by
  intro pins s σ H xs us Q I r h
  obtain ⟨tp, C1, C2, b, rfl, ht, e, q⟩ := h
  cases r with
  | cons rx rr =>
    cases rr with
    | cons rt rr =>
      cases rr
      cases rx
      cases rt
      obtain ⟨hget, _⟩ := I.pin (a, oe) (List.mem_append.mpr (.inl List.mem_cons_self))
      obtain ⟨vs, hv⟩ := hf
      have J : PySem.W.InstAt s.heap a oe D none := by
        obtain ⟨oc, od, oda, osl⟩ := oe
        obtain ⟨h1, h2⟩ := hz
        dsimp only at h1 h2 hv
        subst h1 h2 hv
        exact ⟨hget, rfl, rfl, trivial⟩
      obtain ⟨_, its, vr, ot, hg, hcl, nn, hdt⟩ := I.hok tp _ ht
      obtain ⟨c1, d1, da1, s1⟩ := ot
      dsimp only at hcl hdt
      subst hcl hdt
      have ei : its = [.ref C1, .ref C2] := by
        cases vr with
        | cons r1 vr =>
          cases vr with
          | cons r2 vr =>
            cases vr
            cases r1
            cases r2
            rfl
      subst ei
      exact PySem.W.kia_tup (PySem.W.handS_kitx_exc C.hg C.hk C.hs C.hd C.ha C.hn C.ht C.hm) I.kIn J hg e (fun z => nomatch z) fun tk => ⟨.bl b, H, I.kept (t' := tk) fun _ _ z => z, rfl, q⟩
theorem de_isE2 {X : Cx} (i : Nat) {a D C1 C2 : Addr} {oe : Obj} {pn : List (Addr × Obj)} {n y1 y2 : Str} {p p1 p2 p3 p4 pos : Pos} {kk : Nat} {b : Bool} (C : ExcC X.K D) (hz : Zc (.ref D) none oe) (hf : ∃ vs, oe.data = .fields vs) (hg : Gl X "isinstance") (hm : X.mg "isinstance" = none)
    {t1 t2 : TE} (hcl1 : PE (X.suite a ((a, oe) :: pn)) (.Name y1 p2) t1) (ht1 : ∀ σ H Q, Q (.ref C1) H → t1 σ H Q) (hcl2 : PE (X.suite a ((a, oe) :: pn)) (.Name y2 p3) t2) (ht2 : ∀ σ H Q, Q (.ref C2) H → t2 σ H Q) (hk : PySem.W.kitAny X.K (.ref D) [.ref C1, .ref C2] = some b)
    (hN : X.N[i]? = some n := by rfl) (hv : Vis X.env.scope n := by first | exact Or.inl rfl | exact Or.inr (Or.inl rfl) | exact Or.inr (Or.inr rfl)) (hd : (n == ("__debug__" : Str)) = false := by decide) (hcd : (n == ("__classdict__" : Str)) = false := by decide)
    (h1 : starEach (.Name n p1 :: [.Tuple [.Name y1 p2, .Name y2 p3] kk p4]) X.env = (false, eval (.Name n p1) X.env) :: starEach [.Tuple [.Name y1 p2, .Name y2 p3] kk p4] X.env := by rfl) (h2 : starEach (.Tuple [.Name y1 p2, .Name y2 p3] kk p4 :: []) X.env = (false, eval (.Tuple [.Name y1 p2, .Name y2 p3] kk p4) X.env) :: starEach [] X.env := by rfl) (hpl : (backTo pos (starEach [.Tuple [.Name y1 p2, .Name y2 p3] kk p4] X.env)).any (·.1) = false := by rfl)
    (h3 : starEach (.Name y1 p2 :: [.Name y2 p3]) X.env = (false, eval (.Name y1 p2) X.env) :: starEach [.Name y2 p3] X.env := by rfl) (h4 : starEach (.Name y2 p3 :: []) X.env = (false, eval (.Name y2 p3) X.env) :: starEach [] X.env := by rfl) :
    DE (X.suite a ((a, oe) :: pn)) (.Call (.Name "isinstance" p) [.Name n p1, .Tuple [.Name y1 p2, .Name y2 p3] kk p4] [] pos) (eIsE i a b) := by
  refine ⟨_, pe_callB (X := X.suite a ((a, oe) :: pn)) (call_isE2 C hz hf) hg hm (by decide +kernel) (pa_cons (pe_var hN hv hd hcd) (pa_cons (pe_tup (pa_cons hcl1 (pa_cons hcl2 pa_nil h4) h3)) pa_nil h2) h1) (he := h1) (hpl := hpl), fun σ H1 H ρ d Q s h k => ?_⟩
  unfold eIsE at h
  split at h
  · rename_i a' cn em
    split at h
    · rename_i ea
      cases h
      subst ea
      obtain ⟨v, eσ, rfl⟩ := s.at_ i _ em
      exact ⟨_, eσ, ht1 _ _ _ (ht2 _ _ _ ⟨by show 2 ≤ sizeLine; rw [sizeLine_eq]; omega, fun tp ntp => ⟨tp, C1, C2, b, rfl, upd_same, hk, k _ H1 _ (Ext.newMut s.sub ntp) (.bl b)⟩⟩)⟩
    · cases h
  · cases h
/-! ### a def that changes the instance it is handed, and ends well -/
def spF (K : PySem.W.Frag) (CR : Addr) (n : Nat) (g : GM) : Sp := fun vs H Q _ => vs.length = n + 1 ∧ ∃ (H1 : Hp) (a dx : Addr) (fs : Fs) (args : List V) (ds : List PyData) (d : PyData) (fs' : Fs), vs = .ref a :: args ∧ Same H1 H ∧ InsOk K H1 H CR a dx fs ∧ DenL K H1 args ds ∧ g a dx fs ds = some (.ok d, fs') ∧
  ∀ v H1' H', Ext H1 (cutH H [a, dx]) H1' H' → InsOk K H1' H' CR a dx fs' → Den K H1' v d → Q v H'
section
variable {P : Program} {w : World} {K : PySem.W.Frag} {mg : Str → Option Value} {base : Heap} {CR : Addr}
theorem okF {x q : Str} {st : Stmt} {f : Addr} {fd : FuncData} {N ps : List Str} {k : Nat} {fb : En → Option OutM} (n m : Nat) (F : Fun K x q st f fd) (S : FnScope N ps (defScope st)) (hn : ps.length = n + 1) (hNm : N.length = n + 1 + m)
    (body : ∀ (cdv : Value) (A : Around) (outer : List Env) (s : Shared) (H : Hp) (E : XK), Room k (A.deeper (envOfC q (defScope st) s.heap.objs.size f cdv)) → DMs (cxOf CX0 P w K mg base N q (defScope st) f cdv A outer s H E).nox (fun _ _ _ _ => False) (defBody st) fb) :
    FnOk P w K mg base CX0 (k + 1) f fd ps (spF K CR n (fnM CR n m fb)) := by
  refine F.ok S (fun vs H Q E h => h.1.trans hn.symm) (fun cdv A outer s H vs Q E hr h => ?_)
  obtain ⟨hl, H1, a, dx, fs, args, ds, d0, fs', rfl, sm, hI, dl, e, k1⟩ := h
  obtain ⟨t, p, q⟩ := body cdv A outer s H E hr
  unfold fnM at e
  have hds : ds.length = n := by rw [← dl.length]; simpa using hl
  rw [if_pos hds] at e
  refine ⟨t, p, ?_⟩
  have hst : L2.start N (V.ref a :: args) = some (V.ref a) :: (args.map some ++ List.replicate m none) := by
    unfold L2.start
    rw [show N.length - (V.ref a :: args).length = m by rw [List.length_cons, dl.length]; omega]
    rfl
  rw [hst]
  obtain ⟨o, ho, e⟩ := bind_some e
  have sk := sok_startO (m := m) (w := .so CR a dx fs) sm dl ⟨rfl, hI⟩
  obtain ⟨fsV, q1, q2, q3, q4, _⟩ := id hI
  have sc := cut_same (a := a) (dx := dx) sm q3 q4
  have s0 : Sst K H1 (cutH H [a, dx]) H1 H (some (V.ref a) :: (args.map some ++ List.replicate m none)) (some (.so CR a dx fs) :: (ds.map (fun d => some (.im d)) ++ List.replicate m none)) := by
    refine ⟨sk, sc, ⟨.refl _, sm, fun b o z y => ⟨y, ?_⟩⟩, fun i w v b e _ o => ?_⟩
    · unfold cutH at z
      split at z
      · cases z
      · exact z
    · cases i with
      | zero =>
        cases e
        unfold cutH
        rw [if_pos (by
          rcases o.2 with rfl | rfl
          · simp
          · simp)]
      | succ i =>
        rcases List.mem_append.mp (List.mem_of_getElem? (show (ds.map (fun d => some (W.im d)) ++ List.replicate m none)[i]? = _ from e)) with z | z
        · obtain ⟨d, _, z⟩ := List.mem_map.mp z
          cases z
          exact o.elim
        · cases List.eq_of_mem_replicate z
  refine q H1 _ H1 H _ _ o _ s0 ho ?_
  cases o with
  | rt d ρ =>
    obtain ⟨fs2, e1, e2⟩ := map_some e
    cases e2
    exact fun v σ H1' H' _ s dv => k1 v H1' H' s.fr (soFs_ok s e1) dv
  | nx ρ =>
    obtain ⟨fs2, e1, e2⟩ := map_some e
    cases e2
    exact fun σ H1' H' _ s => k1 .non H1' H' s.fr (soFs_ok s e1) .non
  | ex c ρ =>
    obtain ⟨fs2, e1, e2⟩ := map_some e
    cases e2
structure CalMF (P : Program) (w : World) (K : PySem.W.Frag) (mg : Str → Option Value) (base : Heap) (CR : Addr) (k : Nat) (x : Str) (n : Nat) (g : GM) : Prop where
  ex : ∃ (f : Addr) (fd : FuncData) (ps : List Str), FnOk P w K mg base CX0 k f fd ps (spF K CR n g) ∧ mg x = some (.ref f) ∧ PySem.W.keepIn K (.ref f) = true ∧ Binds K fd ps []
end
section
variable {X : Cx} {es : List Expr} {fs : En → Option (List PyData)} {pos p : Pos} {x fn : Str} {CR : Addr} {k j n : Nat} {g : GM}
noncomputable def qFn (i : Nat) (CR : Addr) (g : GM) (fs : En → Option (List PyData)) : En → Option (PyData × En) := fun ρ => (obOf i CR ρ).bind fun fl => (fs ρ).bind fun ds => (allM g fl ds).bind fun rf => (okR rf.1).bind fun d => (setO i rf.2 ρ).map fun ρ' => (d, ρ')
theorem dem_fn (i : Nat) (c : CalMF X.prog X.w X.K X.mg X.base CR k fn n g) (hr : Room j X.A) (hk : k ≤ j) (hg : Gl X fn) (ha : DA X es fs) (hn : ∀ ρ ds, fs ρ = some ds → ds.length = n) (hN : X.N[i]? = some x := by rfl) (hv : Vis X.env.scope x := by first | exact Or.inl rfl | exact Or.inr (Or.inl rfl) | exact Or.inr (Or.inr rfl)) (hd : (x == ("__debug__" : Str)) = false := by decide)
    (hcd : (x == ("__classdict__" : Str)) = false := by decide) (hdb : (fn == ("__debug__" : Str)) = false := by decide) {p0 : Pos}
    (he : starEach (.Name x p0 :: es) X.env = (false, eval (.Name x p0) X.env) :: starEach es X.env := by rfl) (hpl : (backTo pos (starEach es X.env)).any (·.1) = false := by rfl) :
    DEM X (.Call (.Name fn p) (.Name x p0 :: es) [] pos) (qFn i CR g fs) := by
  obtain ⟨f, fd, ps, F, hm, kp, b⟩ := c.ex
  obtain ⟨t, pt, q⟩ := ha
  refine ⟨_, pe_call F (hr.mono hk) hg hm kp b .nil pass0 (pa_cons (pe_var hN hv hd hcd) pt he) hdb he hpl, fun B1 B H1 H σ ρ d ρ' Q s h k => ?_⟩
  obtain ⟨fl, h1, h⟩ := bind_some h
  obtain ⟨ds, h3, h⟩ := bind_some h
  obtain ⟨rf, h4, h⟩ := bind_some h
  obtain ⟨d', h5, h⟩ := bind_some h
  obtain ⟨ρ2, h6, h⟩ := map_some h
  cases h
  obtain ⟨r, fl'⟩ := rf
  have er : r = .ok d := by
    cases r with
    | ok d2 => cases h5; rfl
    | ex c => cases h5
  subst er
  obtain ⟨a0, dx0, eσ, ⟨fsV, q1, q2, q3, q4, q5, q6⟩, _⟩ := s.obj h1
  refine ⟨_, eσ, q σ H1 H ρ ds _ s.sok h3 fun vs H1' H' x1 dl => ?_⟩
  obtain ⟨a1, dx1, eσ', hI, up⟩ := (s.ext x1).obj h1
  rw [eσ] at eσ'
  cases eσ'
  show spF X.K CR n g ((V.ref a0 :: vs) ++ []) H' Q E0
  rw [List.append_nil]
  exact ⟨by rw [List.length_cons, dl.length, hn _ _ h3], H1', a0, dx1, fl, vs, ds, d, fl', rfl, x1.sub, hI, dl, allM_some h4 a0 dx1, fun v H2 H2' x2 hI2 dv => k v H2 H2' (x1.st.trans x2.st) (up H2 H2' fl' _ h6 x2 hI2) dv⟩
end
/-! ### two classes may be raised -/
noncomputable def mTryA2 (i : Nat) (c1 c2 : Str) (fb : En → Option OutM) (f1 f2 : Addr → En → Option OutM) : En → Option OutM := mTryA i (sub2 c1 true c2 true) fb (fun cn a => if cn = c1 then f1 a else f2 a)
theorem dm_tryA2 {X : Cx} {W0 : WX} {x nm : Str} {c : Value} {body suite : List Stmt} {b₀ : Stmt} {np pos pos' : Pos} {fb : En → Option OutM} (i : Nat) {c1 c2 : Str} {f1 f2 : Addr → En → Option OutM} (hne : ¬ c2 = c1) (hN : X.N.Nodup) (hs : X.stack = X.env :: X.outer) (hf : X.env.frame = some X.env.locals) (hc : Names X x c) (hb : ∀ (W : WX) (pn : List (Addr × Obj)) (xe : Value → Shared → Prop), Takes (X.tr pn xe) W → DMs (X.tr pn xe) W body fb)
    (hsu1 : ∀ C a oe pn, X.mg c1 = some (.ref C) → Zc (.ref C) none oe → (∃ vs, oe.data = .fields vs) → DMs (X.suite a ((a, oe) :: pn)) (fun _ _ _ _ => False) (b₀ :: suite) (f1 a)) (hsu2 : ∀ C a oe pn, X.mg c2 = some (.ref C) → Zc (.ref C) none oe → (∃ vs, oe.data = .fields vs) → DMs (X.suite a ((a, oe) :: pn)) (fun _ _ _ _ => False) (b₀ :: suite) (f2 a))
    (hm1 : ∀ C, X.mg c1 = some (.ref C) → PySem.W.exmOne X.K (.ref C) c = some true) (hm2 : ∀ C, X.mg c2 = some (.ref C) → PySem.W.exmOne X.K (.ref C) c = some true)
    (hi : X.N[i]? = some nm := by rfl) (hln : X.env.kindOf nm = some .local := by rfl) :
    DM X W0 (.Try body [.ExceptHandler (some (.Name x np)) (some nm) (b₀ :: suite) pos'] [] [] pos) (mTryA2 i c1 c2 fb f1 f2) := by
  refine dm_tryA i hN hs hf hc hb (fun cn C a oe pn g e hz hf => ?_) (fun cn C b g e => ?_) hi hln
  · rcases sub2_inv e with ⟨rfl, _⟩ | ⟨rfl, _⟩
    · rw [if_pos rfl]
      exact hsu1 C a oe pn g hz hf
    · rw [if_neg hne]
      exact hsu2 C a oe pn g hz hf
  · rcases sub2_inv e with ⟨rfl, rfl⟩ | ⟨rfl, rfl⟩
    · exact hm1 C g
    · exact hm2 C g
theorem kit_ff {K : PySem.W.Frag} {t c1 c2 : Value} (h1 : PySem.W.kitOne K t c1 = some false) (h2 : PySem.W.kitOne K t c2 = some false) : PySem.W.kitAny K t [c1, c2] = some false := by
  unfold PySem.W.kitAny
  rw [h1]
  dsimp only
  unfold PySem.W.kitAny
  rw [h2]
  rfl
end Dv

/-! how the functions of instances are reckoned -/
namespace Dv
open PySem PySem.Spec PyProof.Rows L2
section
variable {ρ : En} {f g : En → Option PyData} {fs fi : En → Option (List PyData)} {d e : PyData} {ds : List PyData} {i j l : Nat} {CR a dx : Addr} {fl fl' : Fs} {x m : Str} {w : Option W} {gm : GM} {fm fn : En → Option (PyData × En)} {tm tn : En → Option (Bool × En)} {s s' : En → Option Out}
@[simp] theorem fsOf_fo : fsOf 0 CR (some (.fo CR fl) :: ρ) = some fl := if_pos rfl
@[simp] theorem fsOf_so : fsOf 0 CR (some (.so CR a dx fl) :: ρ) = some fl := if_pos rfl
@[simp] theorem fsOf_ob : fsOf 0 CR (some (.ob CR fl) :: ρ) = some fl := if_pos rfl
@[simp] theorem fsOf_s : fsOf (i + 1) CR (w :: ρ) = fsOf i CR ρ := rfl
@[simp] theorem foOf_fo : foOf 0 CR (some (.fo CR fl) :: ρ) = some fl := if_pos rfl
@[simp] theorem foOf_s : foOf (i + 1) CR (w :: ρ) = foOf i CR ρ := rfl
@[simp] theorem obOf_so : obOf 0 CR (some (.so CR a dx fl) :: ρ) = some fl := if_pos rfl
@[simp] theorem obOf_ob : obOf 0 CR (some (.ob CR fl) :: ρ) = some fl := if_pos rfl
@[simp] theorem obOf_s : obOf (i + 1) CR (w :: ρ) = obOf i CR ρ := rfl
@[simp] theorem isOb_so : isOb 0 (some (.so CR a dx fl) :: ρ) = true := rfl
@[simp] theorem isOb_ob : isOb 0 (some (.ob CR fl) :: ρ) = true := rfl
@[simp] theorem isOb_s : isOb (i + 1) (w :: ρ) = isOb i ρ := rfl
@[simp] theorem frO_so : frO 0 (some (.so CR a dx fl) :: ρ) = some (.fo CR fl) :: ρ := rfl
@[simp] theorem frO_ob : frO 0 (some (.ob CR fl) :: ρ) = some (.fo CR fl) :: ρ := rfl
@[simp] theorem frO_s : frO (i + 1) (w :: ρ) = w :: frO i ρ := by
  unfold frO
  simp only [List.getElem?_cons_succ]
  cases ρ[i]? with
  | none => rfl
  | some u =>
    cases u with
    | none => rfl
    | some u => cases u <;> rfl
@[simp] theorem setO_so : setO 0 fl' (some (.so CR a dx fl) :: ρ) = some (some (.so CR a dx fl') :: ρ) := rfl
@[simp] theorem setO_ob : setO 0 fl' (some (.ob CR fl) :: ρ) = some (some (.ob CR fl') :: ρ) := rfl
@[simp] theorem setO_s : setO (i + 1) fl' (w :: ρ) = (setO i fl' ρ).map fun r => w :: r := by
  unfold setO
  simp only [List.getElem?_cons_succ]
  cases ρ[i]? with
  | none => rfl
  | some u =>
    cases u with
    | none => rfl
    | some u => cases u <;> rfl
@[simp] theorem eAt_ap : eAt i CR x ρ = (fsOf i CR ρ).bind fun fs => fs.lookup x := rfl
@[simp] theorem eMt_ap {g : Fs → List PyData → Option PyData} : eMt i CR m g ρ = (foOf i CR ρ).bind fun fl => if fl.lookup m = none then g fl [] else none := rfl
@[simp] theorem eFo_ap {g : Fs → List PyData → Option PyData} : eFo i CR g fs ρ = (foOf i CR ρ).bind fun fl => (fs ρ).bind fun ds => g fl ds := rfl
@[simp] theorem eOb_ap : eOb i f ρ = if isOb i ρ = true then f (frO i ρ) else none := rfl
@[simp] theorem sPut_ap : sPut i CR x f ρ = (f ρ).bind fun d => (obOf i CR ρ).bind fun fs => if fs.length < 900 then (setO i (putO x d fs) ρ).map Out.nx else none := rfl
@[simp] theorem mO_ap : mO s ρ = (s ρ).bind toM := rfl
@[simp] theorem toM_nx : toM (.nx ρ) = some (.nx ρ) := rfl
variable {u v : En → Option OutM} {t : En → Option Bool}
@[simp] theorem mSeq_ap : mSeq u v ρ = (u ρ).bind (thenM v) := rfl
@[simp] theorem thenM_nx : thenM v (.nx ρ) = v ρ := rfl
@[simp] theorem thenM_rt : thenM v (.rt d ρ) = some (.rt d ρ) := rfl
@[simp] theorem thenM_ex {c} : thenM v (.ex c ρ) = some (.ex c ρ) := rfl
@[simp] theorem mIf_ap : mIf t u v ρ = (t ρ).bind fun b => if b = true then u ρ else v ρ := rfl
@[simp] theorem mRet_ap : mRet f ρ = (f ρ).map fun d => .rt d ρ := rfl
@[simp] theorem mRaise_ap {c} : mRaise c ρ = some (.ex c ρ) := rfl
@[simp] theorem outM_nx : outM CR a dx (.nx ρ) = (soFs CR a dx ρ).map fun fs => (.ok .none, fs) := rfl
@[simp] theorem outM_rt : outM CR a dx (.rt d ρ) = (soFs CR a dx ρ).map fun fs => (.ok d, fs) := rfl
@[simp] theorem outM_ex {c} : outM CR a dx (.ex c ρ) = (soFs CR a dx ρ).map fun fs => (.ex c, fs) := rfl
@[simp] theorem soFs_0 : soFs CR a dx (some (.so CR a dx fl) :: ρ) = some fl := if_pos ⟨rfl, rfl, rfl⟩
variable {r r' : En → Option Fs}
@[simp] theorem rSeq_ap : rSeq s r ρ = (s ρ).bind fun o => match o with
  | .nx ρ' => r ρ'
  | _ => none := rfl
@[simp] theorem rOb_0 : rOb 0 CR (some (.ob CR fl) :: ρ) = some fl := if_pos rfl
@[simp] theorem rOb_s : rOb (i + 1) CR (w :: ρ) = rOb i CR ρ := rfl
@[simp] theorem sTw_ap {g : Fs → Option Fs} : sTw i l CR m g ρ = if isOb i ρ = true then (foOf i CR (frO i ρ)).bind fun fl => if fl.lookup m = none then (g fl).map fun fs' => .nx (ρ.set l (some (.ob CR fs'))) else none else none := rfl
theorem sMk_eq {rf : Fs} (h : fs ρ = some ds) (h2 : allM gm [] ds = some (.ok .none, rf)) : sMk i CR gm fs ρ = some (.nx (ρ.set i (some (.ob CR rf)))) := by
  unfold sMk
  rw [h, Option.bind_some, h2]
  rfl
theorem qMeth_eq {ρ' : En} (h1 : obOf i CR ρ = some fl) (h2 : fl.lookup m = none) (h3 : fs ρ = some ds) (h4 : allM gm fl ds = some (.ok d, fl')) (h5 : setO i fl' ρ = some ρ') : qMeth i CR m gm fs ρ = some (d, ρ') := by
  unfold qMeth
  rw [h1, Option.bind_some, if_pos h2, h3, Option.bind_some, h4, Option.bind_some]
  show ((some d).bind fun d => (setO i fl' ρ).map fun ρ' => (d, ρ')) = _
  rw [Option.bind_some, h5]
  rfl
@[simp] theorem qO_ap : qO f ρ = (f ρ).map fun d => (d, ρ) := rfl
@[simp] theorem q2_ap {g : PyData → PyData → Option PyData} : q2 g fm f ρ = (fm ρ).bind fun z => (f z.2).bind fun e => (g z.1 e).map fun r => (r, z.2) := rfl
@[simp] theorem mCmp_ap {g : PyData → PyData → Option PyData} : mCmp g fm f ρ = (q2 g fm f ρ).bind fun z => (asB z.1).map fun k => (k, z.2) := rfl
@[simp] theorem mT_ap : mT t ρ = (t ρ).map fun b => (b, ρ) := rfl
@[simp] theorem mOr_ap : mOr tm tn ρ = (tm ρ).bind fun z => if z.1 = true then some (true, z.2) else tn z.2 := rfl
@[simp] theorem sIfM_ap : sIfM tm s s' ρ = (tm ρ).bind fun z => if z.1 = true then s z.2 else s' z.2 := rfl
@[simp] theorem sExpM_ap : sExpM fm ρ = (fm ρ).map fun z => .nx z.2 := rfl
@[simp] theorem sRetM_ap : sRetM fm ρ = (fm ρ).map fun z => .rt z.1 := rfl
@[simp] theorem sSetM_ap : sSetM i fm ρ = (fm ρ).map fun z => .nx (z.2.set i (some (.im z.1))) := rfl
@[simp] theorem mAndV_ap : mAndV fm fn ρ = (fm ρ).bind fun z => (asB z.1).bind fun b => if b = true then fn z.2 else some (.bool false, z.2) := rfl
@[simp] theorem mOrV_ap : mOrV fm fn ρ = (fm ρ).bind fun z => (asB z.1).bind fun b => if b = true then some (.bool true, z.2) else fn z.2 := rfl
@[simp] theorem qLc_ap {spl is own} : qLc fi spl is own fm ρ = (fi ρ).bind fun ds => (lcM spl is own fm ρ ds).map fun r => (.list r.1, r.2) := rfl
@[simp] theorem lcM_nil {spl is own} : lcM spl is own fm ρ [] = some ([], ρ) := rfl
theorem lcM_cons {spl is own} : lcM spl is own fm ρ (d :: ds) = (spl d).bind fun xs => (fm (setAllW (wipeE ρ own) is xs)).bind fun z => (lcM spl is own fm (wipeE z.2 own) ds).map fun r => (z.1 :: r.1, r.2) := rfl
theorem fnO_ap {fb : En → Option Out} {n m : Nat} (h : ds.length = n) : fnO CR n m fb fl ds = outD (fb (some (.fo CR fl) :: (ds.map (fun d => some (.im d)) ++ List.replicate m none))) := if_pos h
theorem fnM_ap {fb : En → Option OutM} {n m : Nat} (h : ds.length = n) : fnM CR n m fb a dx fl ds = (fb (some (.so CR a dx fl) :: (ds.map (fun d => some (.im d)) ++ List.replicate m none))).bind (outM CR a dx) := if_pos h
end
end Dv

namespace Nt
/-! ### nets made straight -/
def stp (o : List Nat) (p : Sw) : List Nat := if o.getD p.2 0 < o.getD p.1 0 then (o.set p.1 (o.getD p.2 0)).set p.2 (o.getD p.1 0) else o
def strT : Net → List Nat → Net × List Nat
  | [], o => ([], o)
  | p :: n, o => (((stp o p).getD p.1 0, (stp o p).getD p.2 0) :: (strT n (stp o p)).1, (strT n (stp o p)).2)
structure OrdOk (w : Nat) (o : List Nat) : Prop where
  len : o.length = w
  lt : ∀ i, i < w → o.getD i 0 < w
  inj : ∀ i j, i < w → j < w → o.getD i 0 = o.getD j 0 → i = j
def Straight (n : Net) : Prop := ∀ p ∈ n, p.1 < p.2
theorem getD_set {α : Type} (l : List α) (i j : Nat) (x d : α) : (l.set i x).getD j d = if i = j ∧ j < l.length then x else l.getD j d := by
  rw [List.getD_eq_getElem?_getD, List.getElem?_set, List.getD_eq_getElem?_getD]
  by_cases h : i = j
  · subst h
    by_cases hl : i < l.length
    · simp [hl]
    · simp [hl]
  · simp [h]
theorem stp_len (o : List Nat) (p : Sw) : (stp o p).length = o.length := by
  unfold stp
  split
  · rw [List.length_set, List.length_set]
  · rfl
theorem stp_get {w : Nat} {o : List Nat} (h : OrdOk w o) {p : Sw} (hp : SwOk w p) {i : Nat} (hi : i < w) : (stp o p).getD i 0 = if o.getD p.2 0 < o.getD p.1 0 then (if i = p.2 then o.getD p.1 0 else if i = p.1 then o.getD p.2 0 else o.getD i 0) else o.getD i 0 := by
  unfold stp
  split
  · rw [getD_set, List.length_set, getD_set, h.len]
    by_cases e2 : i = p.2
    · rw [if_pos ⟨e2.symm, hi⟩, if_pos e2]
    · rw [if_neg (fun z => e2 z.1.symm), if_neg e2]
      by_cases e1 : i = p.1
      · rw [if_pos ⟨e1.symm, hi⟩, if_pos e1]
      · rw [if_neg (fun z => e1 z.1.symm), if_neg e1]
  · rfl
theorem stp_ok {w : Nat} {o : List Nat} (h : OrdOk w o) {p : Sw} (hp : SwOk w p) : OrdOk w (stp o p) := by
  obtain ⟨p1, p2, p3⟩ := hp
  refine ⟨by rw [stp_len]; exact h.len, fun i hi => ?_, fun i j hi hj e => ?_⟩
  · rw [stp_get h ⟨p1, p2, p3⟩ hi]
    have := h.lt i hi
    have := h.lt p.1 p1
    have := h.lt p.2 p2
    split
    · split
      · assumption
      · split <;> assumption
    · assumption
  · rw [stp_get h ⟨p1, p2, p3⟩ hi, stp_get h ⟨p1, p2, p3⟩ hj] at e
    split at e
    · by_cases i2 : i = p.2
      · by_cases j2 : j = p.2
        · omega
        · rw [if_pos i2, if_neg j2] at e
          by_cases j1 : j = p.1
          · rw [if_pos j1] at e; have := h.inj _ _ p1 p2 e; omega
          · rw [if_neg j1] at e; have := h.inj _ _ p1 hj e; omega
      · rw [if_neg i2] at e
        by_cases i1 : i = p.1
        · rw [if_pos i1] at e
          by_cases j2 : j = p.2
          · rw [if_pos j2] at e; have := h.inj _ _ p2 p1 e; omega
          · rw [if_neg j2] at e
            by_cases j1 : j = p.1
            · omega
            · rw [if_neg j1] at e; have := h.inj _ _ p2 hj e; omega
        · rw [if_neg i1] at e
          by_cases j2 : j = p.2
          · rw [if_pos j2] at e; have := h.inj _ _ hi p1 e; omega
          · rw [if_neg j2] at e
            by_cases j1 : j = p.1
            · rw [if_pos j1] at e; have := h.inj _ _ hi p2 e; omega
            · rw [if_neg j1] at e; exact h.inj _ _ hi hj e
    · exact h.inj _ _ hi hj e
theorem stp_lt {w : Nat} {o : List Nat} (h : OrdOk w o) {p : Sw} (hp : SwOk w p) : (stp o p).getD p.1 0 < (stp o p).getD p.2 0 := by
  have ok := stp_ok h hp
  obtain ⟨p1, p2, p3⟩ := hp
  have ne : (stp o p).getD p.1 0 ≠ (stp o p).getD p.2 0 := fun e => p3 (ok.inj _ _ p1 p2 e)
  rw [stp_get h ⟨p1, p2, p3⟩ p1, stp_get h ⟨p1, p2, p3⟩ p2] at ne ⊢
  by_cases c : o.getD p.2 0 < o.getD p.1 0
  · rw [if_pos c, if_pos c, if_neg p3, if_pos rfl, if_pos rfl]
    exact c
  · rw [if_neg c, if_neg c] at ne ⊢
    omega
theorem strT_ok : ∀ {w : Nat} {n : Net} {o : List Nat}, OrdOk w o → Ok w n → OrdOk w (strT n o).2 ∧ Ok w (strT n o).1 ∧ Straight (strT n o).1
  | w, [], o, h, _ => ⟨h, .nil w, fun p hp => by simp [strT] at hp⟩
  | w, p :: n, o, h, ok => by
    have h' := stp_ok h ok.head
    obtain ⟨a, b, c⟩ := strT_ok h' ok.tail
    have lt := stp_lt h ok.head
    refine ⟨a, .cons ⟨h'.lt _ ok.head.1, h'.lt _ ok.head.2.1, Nat.ne_of_lt lt⟩ b, fun q hq => ?_⟩
    rcases List.mem_cons.mp hq with rfl | hq
    · exact lt
    · exact c q hq
theorem strT_len : ∀ (n : Net) (o : List Nat), (strT n o).1.length = n.length
  | [], _ => rfl
  | p :: n, o => by
    show (strT n (stp o p)).1.length + 1 = _
    rw [strT_len n]
    rfl
/-- each line's number stands on the line that the order tells -/
theorem str_run : ∀ {w : Nat} {n : Net} {o : List Nat} {r S : Row}, OrdOk w o → Ok w n → r.length = w → S.length = w → (∀ i, i < w → S.getD (o.getD i 0) 0 = r.getD i 0) → ∀ i, i < w → (run (strT n o).1 S).getD ((strT n o).2.getD i 0) 0 = (run n r).getD i 0
  | w, [], o, r, S, _, _, _, _, h, i, hi => h i hi
  | w, p :: n, o, r, S, ho, ok, hr, hS, h, i, hi => by
    have ho' := stp_ok ho ok.head
    obtain ⟨p1, p2, p3⟩ := ok.head
    have e1 := stp_get ho ok.head p1
    have e2 := stp_get ho ok.head p2
    have q1 := ho'.lt _ p1
    have q2 := ho'.lt _ p2
    have q3 : (stp o p).getD p.1 0 ≠ (stp o p).getD p.2 0 := Nat.ne_of_lt (stp_lt ho ok.head)
    have hp' : SwOk S.length ((stp o p).getD p.1 0, (stp o p).getD p.2 0) := ⟨by rw [hS]; exact q1, by rw [hS]; exact q2, q3⟩
    have hpr : SwOk r.length p := by rw [hr]; exact ok.head
    -- the two numbers that are looked at
    have hlo : lo ((stp o p).getD p.1 0, (stp o p).getD p.2 0) S = lo p r := by
      unfold lo
      simp only [e1, e2]
      by_cases c : o.getD p.2 0 < o.getD p.1 0
      · simp only [if_pos c, if_neg p3, if_true, h _ p1, h _ p2]
        exact Int.min_comm _ _
      · simp only [if_neg c, h _ p1, h _ p2]
    have hhi : Nt.hi ((stp o p).getD p.1 0, (stp o p).getD p.2 0) S = Nt.hi p r := by
      unfold Nt.hi
      simp only [e1, e2]
      by_cases c : o.getD p.2 0 < o.getD p.1 0
      · simp only [if_pos c, if_neg p3, if_true, h _ p1, h _ p2]
        exact Int.max_comm _ _
      · simp only [if_neg c, h _ p1, h _ p2]
    show (run (strT n (stp o p)).1 (sw ((stp o p).getD p.1 0, (stp o p).getD p.2 0) S)).getD ((strT n (stp o p)).2.getD i 0) 0 = (run n (sw p r)).getD i 0
    refine str_run ho' ok.tail (by rw [sw_len]; exact hr) (by rw [sw_len]; exact hS) (fun j hj => ?_) i hi
    rw [sw_get _ _ hp', sw_get _ _ hpr, hlo, hhi]
    simp only
    by_cases j2 : j = p.2
    · rw [if_pos j2, if_pos (by rw [j2])]
    · rw [if_neg j2, if_neg (fun e => j2 (ho'.inj _ _ hj p2 e))]
      by_cases j1 : j = p.1
      · rw [if_pos j1, if_pos (by rw [j1])]
      · rw [if_neg j1, if_neg (fun e => j1 (ho'.inj _ _ hj p1 e)), stp_get ho ok.head hj]
        by_cases c : o.getD p.2 0 < o.getD p.1 0
        · rw [if_pos c, if_neg j2, if_neg j1, h _ hj]
        · rw [if_neg c, h _ hj]
/-- a straight swap leaves a row in order as it is -/
theorem sw_ord {p : Sw} {r : Row} (h : ord r = true) (hp : SwOk r.length p) (lt : p.1 < p.2) : sw p r = r := by
  have le := ord_le h (Nat.le_of_lt lt) hp.2.1
  refine List.ext_getElem (sw_len p r) fun i h1 h2 => ?_
  have e := sw_get p r hp i
  rw [List.getD_eq_getElem?_getD, List.getElem?_eq_getElem h1] at e
  have e' : (sw p r)[i] = if i = p.2 then Nt.hi p r else if i = p.1 then lo p r else r.getD i 0 := e
  rw [e']
  have g : r.getD i 0 = r[i] := by rw [List.getD_eq_getElem?_getD, List.getElem?_eq_getElem h2]; rfl
  by_cases i2 : i = p.2
  · rw [if_pos i2, ← g, i2]
    exact Int.max_eq_right le
  · rw [if_neg i2]
    by_cases i1 : i = p.1
    · rw [if_pos i1, ← g, i1]
      exact Int.min_eq_left le
    · rw [if_neg i1, g]
theorem run_ord : ∀ {n : Net} {r : Row}, ord r = true → Ok r.length n → Straight n → run n r = r
  | [], _, _, _, _ => rfl
  | p :: n, r, h, ok, st => by
    rw [run_cons, sw_ord h ok.head (st p List.mem_cons_self)]
    exact run_ord h ok.tail fun q hq => st q (List.mem_cons_of_mem _ hq)
def ids (w : Nat) : List Nat := List.range w
theorem ids_ok (w : Nat) : OrdOk w (ids w) := by
  have g : ∀ i, i < w → (ids w).getD i 0 = i := fun i hi => by
    unfold ids
    rw [List.getD_eq_getElem?_getD, List.getElem?_range hi]
    rfl
  exact ⟨List.length_range, fun i hi => by rw [g i hi]; exact hi, fun i j hi hj e => by rw [g i hi, g j hj] at e; exact e⟩
theorem ids_get {w i : Nat} (hi : i < w) : (ids w).getD i 0 = i := by
  unfold ids
  rw [List.getD_eq_getElem?_getD, List.getElem?_range hi]
  rfl
def idRow (w : Nat) : Row := (List.range w).map fun i => ((i : Nat) : Int)
theorem idRow_len (w : Nat) : (idRow w).length = w := by unfold idRow; rw [List.length_map, List.length_range]
theorem idRow_get {w i : Nat} (hi : i < w) : (idRow w).getD i 0 = (i : Int) := by
  unfold idRow
  rw [List.getD_eq_getElem?_getD, List.getElem?_map, List.getElem?_range hi]
  rfl
theorem idRow_ord (w : Nat) : ord (idRow w) = true := (ord_iff _).mpr fun i hi => by
  rw [idRow_len] at hi
  rw [idRow_get (by omega), idRow_get hi]
  omega
/-- an order that rises is none -/
theorem ord_ids {w : Nat} {o : List Nat} (h : OrdOk w o) (r : ∀ i, i + 1 < w → o.getD i 0 ≤ o.getD (i + 1) 0) : o = ids w := by
  have lt : ∀ i, i + 1 < w → o.getD i 0 < o.getD (i + 1) 0 := fun i hi => by
    have a := r i hi
    have b : o.getD i 0 ≠ o.getD (i + 1) 0 := fun e => by have := h.inj _ _ (by omega) hi e; omega
    omega
  have up : ∀ i, i < w → i ≤ o.getD i 0 := fun i => by
    induction i with
    | zero => intro _; exact Nat.zero_le _
    | succ i ih => intro hi; have := ih (by omega); have := lt i hi; omega
  have down : ∀ k i, i + k + 1 = w → o.getD i 0 ≤ i := fun k => by
    induction k with
    | zero => intro i hi; have := h.lt i (by omega); omega
    | succ k ih => intro i hi; have := ih (i + 1) (by omega); have := lt i (by omega); omega
  refine List.ext_getElem (by rw [h.len]; unfold ids; rw [List.length_range]) fun i h1 h2 => ?_
  have hi : i < w := by rw [← h.len]; exact h1
  have e : o.getD i 0 = i := Nat.le_antisymm (down (w - 1 - i) i (by omega)) (up i hi)
  rw [List.getD_eq_getElem?_getD, List.getElem?_eq_getElem h1] at e
  have e3 : (ids w)[i] = i := by
    unfold ids
    exact List.getElem_range _
  rw [e3]
  exact e
theorem row_ext {a b : Row} (hl : a.length = b.length) (h : ∀ i, i < a.length → a.getD i 0 = b.getD i 0) : a = b := by
  refine List.ext_getElem hl fun i h1 h2 => ?_
  have := h i h1
  rwa [List.getD_eq_getElem?_getD, List.getElem?_eq_getElem h1, List.getD_eq_getElem?_getD, List.getElem?_eq_getElem h2] at this
/-- of a net that puts rows in order no lines differ -/
theorem str_sorts {w : Nat} {n : Net} (ok : Ok w n) (h : ∀ r : Row, r.length = w → ord (run n r) = true) : (strT n (ids w)).2 = ids w ∧ ∀ r : Row, r.length = w → run (strT n (ids w)).1 r = run n r := by
  obtain ⟨o1, o2, o3⟩ := strT_ok (ids_ok w) ok
  have key := fun r (hr : r.length = w) => str_run (r := r) (S := r) (ids_ok w) ok hr hr fun i hi => by rw [ids_get hi]
  have e0 := key (idRow w) (idRow_len w)
  have e1 : run (strT n (ids w)).1 (idRow w) = idRow w := run_ord (idRow_ord w) (by rw [idRow_len]; exact o2) o3
  rw [e1] at e0
  have srt := (ord_iff _).mp (h (idRow w) (idRow_len w))
  have e2 : (strT n (ids w)).2 = ids w := ord_ids o1 fun i hi => by
    have a := e0 i (by omega)
    have b := e0 (i + 1) hi
    rw [idRow_get (o1.lt _ (by omega))] at a
    rw [idRow_get (o1.lt _ hi)] at b
    have := srt i (by rw [run_len, idRow_len]; exact hi)
    omega
  refine ⟨e2, fun r hr => ?_⟩
  refine row_ext (by rw [run_len, run_len]) fun i hi => ?_
  rw [run_len, hr] at hi
  have := key r hr i hi
  rw [e2, ids_get hi] at this
  exact this
end Nt

/-! nets turned upside down -/
namespace Nt
def flip (w : Nat) (p : Sw) : Sw := (w - 1 - p.2, w - 1 - p.1)
def trn (w : Nat) (n : Net) : Net := n.map (flip w)
def mir (r : Row) : Row := r.reverse.map fun x => -x
theorem mir_len (r : Row) : (mir r).length = r.length := by unfold mir; rw [List.length_map, List.length_reverse]
theorem mir_get {r : Row} {i : Nat} (h : i < r.length) : (mir r).getD i 0 = -(r.getD (r.length - 1 - i) 0) := by
  unfold mir
  rw [getD_map (fun x => -x) r.reverse (by rw [List.length_reverse]; exact h)]
  simp only [List.getD_eq_getElem?_getD]
  rw [List.getElem?_reverse h]
theorem flip_ok {w : Nat} {p : Sw} (h : SwOk w p) : SwOk w (flip w p) := by
  obtain ⟨h1, h2, h3⟩ := h
  exact ⟨by simp only [flip]; omega, by simp only [flip]; omega, by simp only [flip]; omega⟩
theorem trn_ok {w : Nat} {n : Net} (h : Ok w n) : Ok w (trn w n) := fun q hq => by
  obtain ⟨p, hp, rfl⟩ := List.mem_map.mp hq
  exact flip_ok (h p hp)
theorem flip_flip {w : Nat} {p : Sw} (h : SwOk w p) : flip w (flip w p) = p := by
  obtain ⟨h1, h2, h3⟩ := h
  obtain ⟨a, b⟩ := p
  simp only [flip, Prod.mk.injEq] at *
  omega
theorem trn_trn : ∀ {w : Nat} {n : Net}, Ok w n → trn w (trn w n) = n
  | _, [], _ => rfl
  | w, p :: n, h => by
    show flip w (flip w p) :: trn w (trn w n) = _
    rw [flip_flip h.head, trn_trn h.tail]
theorem mir_mir (r : Row) : mir (mir r) = r := row_ext (by rw [mir_len, mir_len]) fun i hi => by
  rw [mir_len, mir_len] at hi
  rw [mir_get (by rw [mir_len]; exact hi), mir_len, mir_get (by omega)]
  rw [show r.length - 1 - (r.length - 1 - i) = i by omega]
  omega
theorem sw_mir {p : Sw} {r : Row} (h : SwOk r.length p) : sw (flip r.length p) (mir r) = mir (sw p r) := by
  have hf : SwOk (mir r).length (flip r.length p) := by rw [mir_len]; exact flip_ok h
  obtain ⟨h1, h2, h3⟩ := h
  refine row_ext (by rw [sw_len, mir_len, mir_len, sw_len]) fun i hi => ?_
  rw [sw_len, mir_len] at hi
  rw [sw_get _ _ hf, mir_get (r := sw p r) (by rw [sw_len]; exact hi), sw_len, sw_get p r ⟨h1, h2, h3⟩]
  have e1 : (mir r).getD (r.length - 1 - p.2) 0 = -(r.getD p.2 0) := by
    rw [mir_get (by omega)]
    rw [show r.length - 1 - (r.length - 1 - p.2) = p.2 by omega]
  have e2 : (mir r).getD (r.length - 1 - p.1) 0 = -(r.getD p.1 0) := by
    rw [mir_get (by omega)]
    rw [show r.length - 1 - (r.length - 1 - p.1) = p.1 by omega]
  have e3 := mir_get hi
  have el : lo (flip r.length p) (mir r) = min (-(r.getD p.2 0)) (-(r.getD p.1 0)) := by
    show min ((mir r).getD (r.length - 1 - p.2) 0) ((mir r).getD (r.length - 1 - p.1) 0) = _
    rw [e1, e2]
  have eh : Nt.hi (flip r.length p) (mir r) = max (-(r.getD p.2 0)) (-(r.getD p.1 0)) := by
    show max ((mir r).getD (r.length - 1 - p.2) 0) ((mir r).getD (r.length - 1 - p.1) 0) = _
    rw [e1, e2]
  have f2 : (flip r.length p).2 = r.length - 1 - p.1 := rfl
  have f1 : (flip r.length p).1 = r.length - 1 - p.2 := rfl
  rw [el, eh, e3]
  unfold lo Nt.hi
  by_cases c1 : i = (flip r.length p).2
  · rw [if_pos c1, if_neg (by omega), if_pos (by omega)]
    omega
  · rw [if_neg c1]
    by_cases c2 : i = (flip r.length p).1
    · rw [if_pos c2, if_pos (by omega)]
      omega
    · rw [if_neg c2, if_neg (by omega), if_neg (by omega)]
theorem run_mir : ∀ {n : Net} {r : Row}, Ok r.length n → run (trn r.length n) (mir r) = mir (run n r)
  | [], _, _ => rfl
  | p :: n, r, ok => by
    show run (trn r.length n) (sw (flip r.length p) (mir r)) = _
    rw [sw_mir ok.head, run_cons]
    have := run_mir (n := n) (r := sw p r) (by rw [sw_len]; exact ok.tail)
    rw [sw_len] at this
    exact this
theorem mir_ord {r : Row} (h : ord r = true) : ord (mir r) = true := (ord_iff _).mpr fun i hi => by
  rw [mir_len] at hi
  rw [mir_get (by omega), mir_get hi]
  have := ord_le h (i := r.length - 1 - (i + 1)) (j := r.length - 1 - i) (by omega) (by omega)
  omega
def Sorts (w : Nat) (n : Net) : Prop := ∀ r : Row, r.length = w → ord (run n r) = true
theorem sorts_trn {w : Nat} {n : Net} (ok : Ok w n) (h : Sorts w n) : Sorts w (trn w n) := fun r hr => by
  subst hr
  have e := run_mir (n := n) (r := mir r) (by rw [mir_len]; exact ok)
  rw [mir_mir, mir_len] at e
  rw [e]
  exact mir_ord (h _ (mir_len r))
theorem sorts_iff {w : Nat} {n : Net} (ok : Ok w n) : Sorts w n ↔ ∀ q ∈ plain w, ord (run n q) = true :=
  ⟨fun h q hq => h q (plain_mem.mp hq).1, fun h r hr => zero_one ok h hr⟩
end Nt

/-! nets of neighbours alone: they sort all rows when they sort the falling one -/
namespace Nt
def pre (r : Row) : Nat → Int
  | 0 => 0
  | j + 1 => pre r j + r.getD j 0
theorem pre_succ (r : Row) (j : Nat) : pre r (j + 1) = pre r j + r.getD j 0 := rfl
def Bit (r : Row) : Prop := ∀ i, i < r.length → 0 ≤ r.getD i 0 ∧ r.getD i 0 ≤ 1
theorem Bit.sw {p : Sw} {r : Row} (h : Bit r) (hp : SwOk r.length p) : Bit (sw p r) := fun i hi => by
  rw [sw_len] at hi
  rw [sw_get p r hp]
  have h1 := h _ hp.1
  have h2 := h _ hp.2.1
  have h3 := h i hi
  unfold lo Nt.hi
  split
  · omega
  · split <;> omega
def Near (n : Net) : Prop := ∀ p ∈ n, p.2 = p.1 + 1
theorem pre_below {p : Sw} {r : Row} (hp : SwOk r.length p) (hn : p.2 = p.1 + 1) : ∀ j, j ≤ p.1 → pre (sw p r) j = pre r j
  | 0, _ => rfl
  | j + 1, h => by
    rw [pre_succ, pre_succ, pre_below hp hn j (by omega), sw_get p r hp, if_neg (by omega), if_neg (by omega)]
theorem pre_mid {p : Sw} {r : Row} (hp : SwOk r.length p) (hn : p.2 = p.1 + 1) : pre (sw p r) (p.1 + 1) = pre r p.1 + lo p r := by
  rw [pre_succ, pre_below hp hn p.1 (Nat.le_refl _), sw_get p r hp, if_neg (by omega), if_pos rfl]
theorem pre_above {p : Sw} {r : Row} (hp : SwOk r.length p) (hn : p.2 = p.1 + 1) : ∀ j, pre (sw p r) (p.1 + 2 + j) = pre r (p.1 + 2 + j)
  | 0 => by
    show pre (sw p r) (p.1 + 1) + _ = pre r p.1 + _ + _
    rw [pre_mid hp hn, sw_get p r hp, if_pos (by omega)]
    unfold lo Nt.hi
    rw [hn]
    omega
  | j + 1 => by
    show pre (sw p r) (p.1 + 2 + j) + (sw p r).getD (p.1 + 2 + j) 0 = pre r (p.1 + 2 + j) + r.getD (p.1 + 2 + j) 0
    rw [pre_above hp hn j, sw_get p r hp, if_neg (by omega), if_neg (by omega)]
structure Dom (w : Nat) (x y : Row) : Prop where
  lx : x.length = w
  ly : y.length = w
  bx : Bit x
  by_ : Bit y
  all : pre x w = pre y w
  le : ∀ j, j ≤ w → pre y j ≤ pre x j
theorem Dom.sw {w : Nat} {x y : Row} {p : Sw} (d : Dom w x y) (hp : SwOk w p) (hn : p.2 = p.1 + 1) : Dom w (sw p x) (sw p y) := by
  have px : SwOk x.length p := by rw [d.lx]; exact hp
  have py : SwOk y.length p := by rw [d.ly]; exact hp
  have hw : ∃ k, w = p.1 + 2 + k := ⟨w - (p.1 + 2), by have := hp.2.1; omega⟩
  refine ⟨by rw [sw_len, d.lx], by rw [sw_len, d.ly], d.bx.sw px, d.by_.sw py, ?_, fun j hj => ?_⟩
  · obtain ⟨k, rfl⟩ := hw
    rw [pre_above px hn, pre_above py hn]
    exact d.all
  · rcases Nat.lt_or_ge p.1 j with c | c
    · by_cases c2 : j = p.1 + 1
      · subst c2
        rw [pre_mid px hn, pre_mid py hn]
        have l0 := d.le p.1 (by omega)
        have l1 := d.le (p.1 + 1) hj
        have l2 := d.le (p.1 + 2) (by obtain ⟨k, hk⟩ := hw; omega)
        have e1 : pre x (p.1 + 2) = pre x p.1 + x.getD p.1 0 + x.getD p.2 0 := by rw [hn]; rfl
        have e2 : pre y (p.1 + 2) = pre y p.1 + y.getD p.1 0 + y.getD p.2 0 := by rw [hn]; rfl
        rw [pre_succ, pre_succ] at l1
        rw [e1, e2] at l2
        have b1 := d.bx _ px.1
        have b2 := d.bx _ px.2.1
        have b3 := d.by_ _ py.1
        have b4 := d.by_ _ py.2.1
        unfold lo
        omega
      · obtain ⟨k, rfl⟩ : ∃ k, j = p.1 + 2 + k := ⟨j - (p.1 + 2), by omega⟩
        rw [pre_above px hn, pre_above py hn]
        exact d.le _ hj
    · rw [pre_below px hn j c, pre_below py hn j c]
      exact d.le j hj
theorem Dom.run {w : Nat} : ∀ {n : Net} {x y : Row}, Ok w n → Near n → Dom w x y → Dom w (run n x) (run n y)
  | [], _, _, _, _, d => d
  | p :: n, x, y, ok, hn, d => by
    rw [run_cons, run_cons]
    exact Dom.run ok.tail (fun q hq => hn q (List.mem_cons_of_mem _ hq)) (d.sw ok.head (hn p List.mem_cons_self))
theorem pre_ones {r : Row} {i : Nat} : ∀ (k : Nat), (∀ j, i ≤ j → j < i + k → r.getD j 0 = 1) → pre r (i + k) = pre r i + k
  | 0, _ => by simp
  | k + 1, h => by
    show pre r (i + k) + r.getD (i + k) 0 = _
    rw [pre_ones k fun j h1 h2 => h j h1 (by omega), h (i + k) (by omega) (by omega)]
    omega
theorem pre_noughts {r : Row} : ∀ (k : Nat), (∀ j, j < k → r.getD j 0 = 0) → pre r k = 0
  | 0, _ => rfl
  | k + 1, h => by
    rw [pre_succ, pre_noughts k fun j hj => h j (by omega), h k (by omega)]
    rfl
theorem pre_up {r : Row} (b : Bit r) {i : Nat} : ∀ (k : Nat), i + k ≤ r.length → pre r (i + k) ≤ pre r i + k
  | 0, _ => by simp
  | k + 1, h => by
    have := pre_up b (i := i) k (by omega)
    have h2 := b (i + k) (by omega)
    show pre r (i + k) + r.getD (i + k) 0 ≤ _
    omega
theorem pre_nonneg {r : Row} (b : Bit r) : ∀ (k : Nat), k ≤ r.length → 0 ≤ pre r k
  | 0, _ => Int.le_refl _
  | k + 1, h => by
    have := pre_nonneg b k (by omega)
    have h2 := b k (by omega)
    rw [pre_succ]
    omega
theorem pre_mono {r : Row} (b : Bit r) {i : Nat} : ∀ (k : Nat), i + k ≤ r.length → pre r i ≤ pre r (i + k)
  | 0, _ => Int.le_refl _
  | k + 1, h => by
    have := pre_mono b (i := i) k (by omega)
    have h2 := b (i + k) (by omega)
    show _ ≤ pre r (i + k) + r.getD (i + k) 0
    omega
theorem Dom.ord {w : Nat} {x y : Row} (d : Dom w x y) (h : ord x = true) : ord y = true := (ord_iff _).mpr fun i hi => by
  have bi := d.by_ i (by omega)
  have bi1 := d.by_ (i + 1) hi
  rw [d.ly] at hi
  by_cases c : x.getD i 0 = 1
  · have e := pre_ones (r := x) (i := i) (w - i) fun j h1 h2 => by
      have l := ord_le h (i := i) (j := j) h1 (by rw [d.lx]; omega)
      have b := d.bx j (by rw [d.lx]; omega)
      omega
    rw [show i + (w - i) = w by omega] at e
    have u := pre_up d.by_ (i := i + 2) (w - (i + 2)) (by rw [d.ly]; omega)
    rw [show i + 2 + (w - (i + 2)) = w by omega] at u
    have e2 : pre y (i + 2) = pre y i + y.getD i 0 + y.getD (i + 1) 0 := rfl
    have l := d.le i (by omega)
    have a := d.all
    omega
  · have bx := d.bx i (by rw [d.lx]; omega)
    have e := pre_noughts (r := x) (i + 1) fun j hj => by
      have l := ord_le h (i := j) (j := i) (by omega) (by rw [d.lx]; omega)
      have b := d.bx j (by rw [d.lx]; omega)
      omega
    have l := d.le (i + 1) (by omega)
    have z := pre_nonneg d.by_ i (by rw [d.ly]; omega)
    rw [pre_succ y] at l
    omega
/-- the falling row w, .., 1 -/
def fall (w : Nat) : Row := (List.range w).map fun i => (w : Int) + ((i : Nat) : Int) * (-1)
theorem fall_len (w : Nat) : (fall w).length = w := by unfold fall; rw [List.length_map, List.length_range]
theorem fall_get {w i : Nat} (h : i < w) : (fall w).getD i 0 = (w : Int) - i := by
  unfold fall
  simp [List.getD_eq_getElem?_getD, h]
  omega
theorem plain_bit {w : Nat} {q : Row} (h : q ∈ plain w) : Bit q := fun i hi => by
  have := (plain_mem.mp h).2 (q.getD i 0) (by rw [List.getD_eq_getElem?_getD, List.getElem?_eq_getElem hi]; exact List.getElem_mem hi)
  omega
theorem ord_map {f : Int → Int} (hf : Rises f) {r : Row} (h : ord r = true) : ord (r.map f) = true := (ord_iff _).mpr fun i hi => by
  rw [List.length_map] at hi
  rw [getD_map f r (by omega), getD_map f r hi]
  exact hf _ _ ((ord_iff r).mp h i hi)
theorem fall_dom {w : Nat} {q : Row} (h : q ∈ plain w) : ∃ c : Int, Dom w ((fall w).map (step c)) q := by
  have hl := (plain_mem.mp h).1
  have b := plain_bit h
  have k0 := pre_nonneg b w (by omega)
  have k1 := pre_up b (i := 0) w (by omega)
  rw [Nat.zero_add] at k1
  have z : pre q 0 = 0 := rfl
  obtain ⟨k, hk⟩ : ∃ k : Nat, pre q w = (k : Int) := ⟨(pre q w).toNat, by omega⟩
  have hkw : k ≤ w := by omega
  have g : ∀ i, i < w → ((fall w).map (step ((w : Int) - k))).getD i 0 = if i < k then 1 else 0 := fun i hi => by
    rw [getD_map _ _ (by rw [fall_len]; exact hi), fall_get hi]
    unfold step
    by_cases c : i < k
    · rw [if_pos c, if_pos (by omega)]
    · rw [if_neg c, if_neg (by omega)]
  have pg : ∀ j, j ≤ w → pre ((fall w).map (step ((w : Int) - k))) j = ((min j k : Nat) : Int) := fun j => by
    induction j with
    | zero => intro _; simp [pre]
    | succ j ih =>
      intro hj
      rw [pre_succ, ih (by omega), g j (by omega)]
      by_cases c : j < k
      · rw [if_pos c]; omega
      · rw [if_neg c]; omega
  refine ⟨(w : Int) - k, by rw [List.length_map, fall_len], hl, fun i hi => ?_, b, ?_, fun j hj => ?_⟩
  · rw [List.length_map, fall_len] at hi
    rw [g i hi]
    split <;> omega
  · rw [pg w (Nat.le_refl _), hk]; omega
  · rw [pg j hj]
    have u1 := pre_up b (i := 0) j (by omega)
    rw [Nat.zero_add] at u1
    have u2 := pre_mono b (i := j) (w - j) (by omega)
    rw [show j + (w - j) = w by omega] at u2
    omega
theorem near_sorts {w : Nat} {n : Net} (ok : Ok w n) (hn : Near n) (h : ord (run n (fall w)) = true) : ∀ q ∈ plain w, ord (run n q) = true := fun q hq => by
  obtain ⟨c, d⟩ := fall_dom hq
  have d2 := Dom.run ok hn d
  rw [run_map (step_rises c) (by rw [fall_len]; exact ok)] at d2
  exact d2.ord (ord_map (step_rises c) h)
end Nt

namespace Nt
open Dv
theorem ord_pw {r : Row} : ord r = true ↔ r.Pairwise (· ≤ ·) := by
  rw [List.pairwise_iff_getElem]
  constructor
  · intro h i j hi hj hij
    have := ord_le h (i := i) (j := j) (by omega) hj
    simp only [List.getD_eq_getElem?_getD, List.getElem?_eq_getElem hi, List.getElem?_eq_getElem hj] at this
    exact this
  · intro h
    refine ord_of fun i j hij hj => ?_
    have := h i j (by omega) hj hij
    simp only [List.getD_eq_getElem?_getD, List.getElem?_eq_getElem (show i < r.length by omega), List.getElem?_eq_getElem hj]
    exact this
theorem srt_ord (r : Row) : ord (srt r) = true := ord_pw.mpr (srt_pw r)
theorem srt_len (r : Row) : (srt r).length = r.length := (srt_perm r).length_eq
theorem srt_id {r : Row} (h : ord r = true) : srt r = r := (srt_eq (List.Perm.refl r) (ord_pw.mp h)).symm
theorem srt_id_iff {r : Row} : srt r = r ↔ ord r = true := ⟨fun h => h ▸ srt_ord r, srt_id⟩
end Nt

namespace Nt
open Dv
theorem sw_perm {p : Sw} {r : Row} (h : SwOk r.length p) : (sw p r).Perm r := by
  obtain ⟨h1, h2, h3⟩ := h
  by_cases c : r.getD p.1 0 ≤ r.getD p.2 0
  · rw [show sw p r = r from by
      refine row_ext (sw_len p r) fun i hi => ?_
      rw [sw_len] at hi
      rw [sw_get p r ⟨h1, h2, h3⟩]
      unfold lo Nt.hi
      by_cases c1 : i = p.2
      · rw [if_pos c1, c1]; omega
      · rw [if_neg c1]
        by_cases c2 : i = p.1
        · rw [if_pos c2, c2]; omega
        · rw [if_neg c2]]
  · have e : sw p r = (r.set p.1 r[p.2]).set p.2 r[p.1] := by
      unfold sw lo Nt.hi
      have e1 : r.getD p.1 0 = r[p.1] := by rw [List.getD_eq_getElem?_getD, List.getElem?_eq_getElem h1]; rfl
      have e2 : r.getD p.2 0 = r[p.2] := by rw [List.getD_eq_getElem?_getD, List.getElem?_eq_getElem h2]; rfl
      rw [e1, e2] at c ⊢
      rw [Int.min_eq_right (by omega), Int.max_eq_left (by omega)]
    rw [e]
    exact List.set_set_perm h1 h2
theorem run_perm : ∀ {n : Net} {r : Row}, Ok r.length n → (run n r).Perm r
  | [], _, _ => List.Perm.refl _
  | p :: n, r, ok => by
    rw [run_cons]
    exact (run_perm (by rw [sw_len]; exact ok.tail)).trans (sw_perm ok.head)
theorem srt_run {n : Net} {r : Row} (ok : Ok r.length n) : srt (run n r) = srt r := (srt_eq ((srt_perm _).trans (run_perm ok)) (srt_pw _))
end Nt

namespace Lw
open PySem PySem.Spec PyProof.Rows L2 Dv
def b_swapped : En → Option Out :=
  (sSeq (sAsgL 3 (eNL listD (eCons (eVar 0) eNil)))
  (sSeq (sAsg (eN minD2 (eCons (e2 idxD (eVar 0) (eVar 1)) (eCons (e2 idxD (eVar 0) (eVar 2)) eNil))) (gSubM 3 (eVar 1)))
  (sSeq (sAsg (eN maxD2 (eCons (e2 idxD (eVar 0) (eVar 1)) (eCons (e2 idxD (eVar 0) (eVar 2)) eNil))) (gSubM 3 (eVar 2)))
  (sRet (eTupM 3)))))
def g_swapped : List PyData → Option PyData := fnD 3 1 b_swapped
def b_run : En → Option Out :=
  (sSeq (sFor (iSq (eVar 0)) (gT 2 (gConsD (gN 2) (gConsD (gN 3) gNilD))) (sAsg (eN g_swapped (eCons (eVar 1) (eCons (eVar 2) (eCons (eVar 3) eNil)))) (gN 1)))
  (sRet (eVar 1)))
def g_run : List PyData → Option PyData := fnD 2 2 b_run
def b_is_whole : En → Option Out :=
  (sRet (eAnd (e1 (isiD "int") (eVar 0)) (eNot (e1 (isiD "bool") (eVar 0)))))
def g_is_whole : List PyData → Option PyData := fnD 1 0 b_is_whole
def b_is_swap : En → Option Out :=
  (sSeq (sIf (tOrD (tNotD (tB (e1 (isiD "tuple") (eVar 0)))) (tB (e2 neD (eN lenD (eCons (eVar 0) eNil)) (eC (.int 2))))) (sRet (eC (.bool false))) sNil)
  (sRet (eAnd (eN allD (eCons (eL (eLc (iSq (eVar 0)) splN [2] [2] tYesD (eAnd (eN g_is_whole (eCons (eVar 2) eNil)) (eChain leD ltD (eC (.int 0)) (eVar 2) (eVar 1))))) eNil)) (e2 neD (e2 idxD (eVar 0) (eC (.int 0))) (e2 idxD (eVar 0) (eC (.int 1)))))))
def g_is_swap : List PyData → Option PyData := fnD 2 1 b_is_swap
def b_is_net : En → Option Out :=
  (sRet (eAnd (e1 (isiD "tuple") (eVar 0)) (eAnd (e2 leD (eN lenD (eCons (eVar 0) eNil)) (eC (.int 40))) (eN allD (eCons (eL (eLc (iSq (eVar 0)) splN [2] [2] tYesD (eN g_is_swap (eCons (eVar 2) (eCons (eVar 1) eNil))))) eNil)))))
def g_is_net : List PyData → Option PyData := fnD 2 1 b_is_net
def b_Runner_init (CR : Addr) : En → Option OutM :=
  (mSeq (mO (sPut 0 CR "first" (eVar 1)))
  (mSeq (mO (sPut 0 CR "swaps" (eN mkT eNil)))
  (mO (sPut 0 CR "gone" (eN mkT eNil)))))
def g_Runner_init (CR : Addr) : GM := fnM CR 1 0 (b_Runner_init CR)
def b_Runner_row_now (CR : Addr) : En → Option Out :=
  (sRet (eN g_run (eCons (eAt 0 CR "swaps") (eCons (eAt 0 CR "first") eNil))))
def g_Runner_row_now (CR : Addr) : Fs → List PyData → Option PyData := fnO CR 0 0 (b_Runner_row_now CR)
def b_Runner_swap (CR : Addr) : En → Option OutM :=
  (mSeq (mIf (tNotD (tB (eN g_is_net (eCons (eN mkT (eCons (eN mkT (eCons (eVar 1) (eCons (eVar 2) eNil))) eNil)) (eCons (eN lenD (eCons (eAt 0 CR "first") eNil)) eNil))))) (mRaise "NoSwap") (mO sNil))
  (mSeq (mO (sAsg (eOb 0 (eMt 0 CR "row_now" (g_Runner_row_now CR))) (gN 3)))
  (mSeq (mO (sPut 0 CR "swaps" (e2 addD (eAt 0 CR "swaps") (eN mkT (eCons (eN mkT (eCons (eVar 1) (eCons (eVar 2) eNil))) eNil)))))
  (mSeq (mO (sPut 0 CR "gone" (eN mkT eNil)))
  (mRet (e2 neD (eOb 0 (eMt 0 CR "row_now" (g_Runner_row_now CR))) (eVar 3)))))))
def g_Runner_swap (CR : Addr) : GM := fnM CR 2 1 (b_Runner_swap CR)
def b_Runner_net (CR : Addr) : En → Option Out :=
  (sRet (eAt 0 CR "swaps"))
def g_Runner_net (CR : Addr) : Fs → List PyData → Option PyData := fnO CR 0 0 (b_Runner_net CR)
def b_Runner_idle (CR : Addr) : En → Option Out :=
  (sSeq (sAsgL 1 (eNL mkL eNil))
  (sSeq (sFor (eNL rg1 (eCons (eN lenD (eCons (eAt 0 CR "swaps") eNil)) eNil)) (gN 2) (sIf (tB (e2 eqD (eN g_run (eCons (eSl (eAt 0 CR "swaps") oNo (oSo (eVar 2))) (eCons (eAt 0 CR "first") eNil))) (eN g_run (eCons (eSl (eAt 0 CR "swaps") oNo (oSo (e2 addD (eVar 2) (eC (.int 1))))) (eCons (eAt 0 CR "first") eNil))))) (sApp 1 (eVar 2)) sNil))
  (sRet (eTupM 1))))
def g_Runner_idle (CR : Addr) : Fs → List PyData → Option PyData := fnO CR 0 2 (b_Runner_idle CR)
def b_Runner_is_done (CR : Addr) : En → Option Out :=
  (sRet (e2 eqD (eL (eNL listD (eCons (eMt 0 CR "row_now" (g_Runner_row_now CR)) eNil))) (eL (eNL sortedD (eCons (eMt 0 CR "row_now" (g_Runner_row_now CR)) eNil)))))
def g_Runner_is_done (CR : Addr) : Fs → List PyData → Option PyData := fnO CR 0 0 (b_Runner_is_done CR)
def b_Runner_back (CR : Addr) : En → Option OutM :=
  (mSeq (mIf (tB (e2 eqD (eAt 0 CR "swaps") (eN mkT eNil))) (mRaise "NoBack") (mO sNil))
  (mSeq (mO (sAsg (e2 idxD (eAt 0 CR "swaps") (e1 negD (eC (.int 1)))) (gN 1)))
  (mSeq (mO (sPut 0 CR "swaps" (eSl (eAt 0 CR "swaps") oNo (oSo (e1 negD (eC (.int 1)))))))
  (mSeq (mO (sPut 0 CR "gone" (e2 addD (eAt 0 CR "gone") (eN mkT (eCons (eVar 1) eNil)))))
  (mRet (eVar 1))))))
def g_Runner_back (CR : Addr) : GM := fnM CR 0 1 (b_Runner_back CR)
def b_Runner_forth (CR : Addr) : En → Option OutM :=
  (mSeq (mIf (tB (e2 eqD (eAt 0 CR "gone") (eN mkT eNil))) (mRaise "NoBack") (mO sNil))
  (mSeq (mO (sAsg (e2 idxD (eAt 0 CR "gone") (e1 negD (eC (.int 1)))) (gN 1)))
  (mSeq (mO (sPut 0 CR "gone" (eSl (eAt 0 CR "gone") oNo (oSo (e1 negD (eC (.int 1)))))))
  (mSeq (mO (sPut 0 CR "swaps" (e2 addD (eAt 0 CR "swaps") (eN mkT (eCons (eVar 1) eNil)))))
  (mRet (eVar 1))))))
def g_Runner_forth (CR : Addr) : GM := fnM CR 0 1 (b_Runner_forth CR)
def b_Runner_tally (CR : Addr) : En → Option Out :=
  (sRet (eN mkT (eCons (eN lenD (eCons (eAt 0 CR "swaps") eNil)) (eCons (eN lenD (eCons (eAt 0 CR "gone") eNil)) eNil))))
def g_Runner_tally (CR : Addr) : Fs → List PyData → Option PyData := fnO CR 0 0 (b_Runner_tally CR)
def b_law_cell_at : En → Option Out :=
  (sSeq (sIf (tB (e2 ltD (eVar 1) (eN lenD (eCons (eVar 0) eNil)))) (sRet (e2 idxD (eVar 0) (eVar 1))) sNil)
  (sRet (eC (.int 0))))
def g_law_cell_at : List PyData → Option PyData := fnD 2 0 b_law_cell_at
def b_law_mixed : En → Option Out :=
  (sSeq (sAsg (e2 modD (e2 mulD2 (e2 addD (e2 addD (eN g_law_cell_at (eCons (eVar 0) (eCons (eVar 1) eNil))) (e2 mulD2 (eC (.int 7919)) (eVar 1))) (eC (.int 1))) (eC (.int 48271))) (eC (.int 2147483647))) (gN 2))
  (sRet (e2 modD (e2 addD (e2 addD (e2 mulD2 (eVar 2) (eVar 2)) (e2 mulD2 (eC (.int 7)) (eVar 2))) (eVar 1)) (eC (.int 2147483629)))))
def g_law_mixed : List PyData → Option PyData := fnD 2 1 b_law_mixed
def b_law_drawn : En → Option Out :=
  (sSeq (sAsg (e2 modD (e2 mulD2 (e2 addD (e2 addD (eVar 0) (e2 mulD2 (eC (.int 104729)) (eVar 1))) (eC (.int 17))) (eC (.int 69621))) (eC (.int 2147483647))) (gN 2))
  (sRet (e2 modD (e2 addD (e2 addD (e2 mulD2 (eVar 2) (eVar 2)) (e2 mulD2 (eC (.int 3)) (eVar 2))) (eVar 1)) (eC (.int 2147483629)))))
def g_law_drawn : List PyData → Option PyData := fnD 2 1 b_law_drawn
def b_law_row : En → Option Out :=
  (sSeq (sAsg (eL (eLc (eNL rg1 (eCons (eVar 2) eNil)) splN [5] [5] tYesD (eN g_law_cell_at (eCons (eVar 0) (eCons (e2 addD (eVar 1) (eVar 5)) eNil))))) (gN 4))
  (sSeq (sIf (tB (e2 eqD (e2 modD (eVar 3) (eC (.int 3))) (eC (.int 1)))) (sAsg (eL (eLc (iSq (eVar 4)) splN [6] [6] tYesD (e2 modD (eVar 6) (eC (.int 2))))) (gN 4)) sNil)
  (sSeq (sIf (tB (e2 eqD (e2 modD (eVar 3) (eC (.int 3))) (eC (.int 2)))) (sAsg (eL (eLc (eNL rg1 (eCons (eVar 2) eNil)) splN [5] [5] tYesD (e2 modD (eN g_law_drawn (eCons (eVar 3) (eCons (eVar 5) eNil))) (e2 idxD (eN mkT (eCons (eC (.int 2)) (eCons (eC (.int 3)) (eCons (eC (.int 9)) (eCons (eC (.int 1000)) eNil))))) (e2 modD (e2 fdivD (eVar 3) (eC (.int 3))) (eC (.int 4))))))) (gN 4)) sNil)
  (sRet (eN tupD (eCons (eVar 4) eNil))))))
def g_law_row : List PyData → Option PyData := fnD 4 3 b_law_row
def b_law_whole : En → Option Out :=
  (sRet (eAnd (e1 (isiD "int") (eVar 0)) (eNot (e1 (isiD "bool") (eVar 0)))))
def g_law_whole : List PyData → Option PyData := fnD 1 0 b_law_whole
def b_law_is_swap : En → Option Out :=
  (sSeq (sIf (tOrD (tNotD (tB (e1 (isiD "tuple") (eVar 0)))) (tOrD (tB (e2 neD (eN lenD (eCons (eVar 0) eNil)) (eC (.int 2)))) (tOrD (tNotD (tB (eN g_law_whole (eCons (e2 idxD (eVar 0) (eC (.int 0))) eNil)))) (tNotD (tB (eN g_law_whole (eCons (e2 idxD (eVar 0) (eC (.int 1))) eNil))))))) (sRet (eC (.bool false))) sNil)
  (sRet (eAnd (eChain leD ltD (eC (.int 0)) (e2 idxD (eVar 0) (eC (.int 0))) (eVar 1)) (eAnd (eChain leD ltD (eC (.int 0)) (e2 idxD (eVar 0) (eC (.int 1))) (eVar 1)) (e2 neD (e2 idxD (eVar 0) (eC (.int 0))) (e2 idxD (eVar 0) (eC (.int 1))))))))
def g_law_is_swap : List PyData → Option PyData := fnD 2 0 b_law_is_swap
def b_law_run : En → Option Out :=
  (sSeq (sAsgL 2 (eNL listD (eCons (eVar 1) eNil)))
  (sSeq (sFor (iSq (eVar 0)) (gT 2 (gConsD (gN 3) (gConsD (gN 4) gNilD))) (sSeq (sAsg (eN minD2 (eCons (eIdxM 2 (eVar 3)) (eCons (eIdxM 2 (eVar 4)) eNil))) (gN 5))
  (sSeq (sAsg (eN maxD2 (eCons (eIdxM 2 (eVar 3)) (eCons (eIdxM 2 (eVar 4)) eNil))) (gSubM 2 (eVar 4)))
  (sAsg (eVar 5) (gSubM 2 (eVar 3))))))
  (sRet (eTupM 2))))
def g_law_run : List PyData → Option PyData := fnD 2 4 b_law_run
noncomputable def b_law_deed (CR : Addr) : En → Option OutM :=
  (mTryA2 4 "NoSwap" "NoBack" (mSeq (mIf (tB (e2 eqD (eVar 1) (eC (.str "swap")))) (mRetX 0 CR "swap" (g_Runner_swap CR) (eCons (eVar 2) (eCons (eVar 3) eNil))) (mO sNil))
  (mSeq (mIf (tB (e2 eqD (eVar 1) (eC (.str "back")))) (mRetX 0 CR "back" (g_Runner_back CR) eNil) (mO sNil))
  (mRetX 0 CR "forth" (g_Runner_forth CR) eNil))) (fun a => (mSeq (mIf (tB (eIsE 4 a false)) (mRet (eC (.str "?"))) (mO sNil))
  (mSeq (mIf (tB (e2 eqD (eIsE 4 a true) (eIsE 4 a false))) (mRet (eC (.str "?"))) (mO sNil))
  (mRet (e2 idxD (eL (eNL mkL (eCons (eC (.str "no swap")) (eCons (eC (.str "no back")) eNil)))) (eN int1D (eCons (eIsE 4 a false) eNil))))))) (fun a => (mSeq (mIf (tB (eIsE 4 a false)) (mRet (eC (.str "?"))) (mO sNil))
  (mSeq (mIf (tB (e2 eqD (eIsE 4 a false) (eIsE 4 a true))) (mRet (eC (.str "?"))) (mO sNil))
  (mRet (e2 idxD (eL (eNL mkL (eCons (eC (.str "no swap")) (eCons (eC (.str "no back")) eNil)))) (eN int1D (eCons (eIsE 4 a true) eNil))))))))
noncomputable def g_law_deed (CR : Addr) : GM := fnM CR 3 1 (b_law_deed CR)
def b_law_as (CR : Addr) : En → Option Out :=
  (sSeq (sAsg (eN g_law_run (eCons (eVar 2) (eCons (eVar 1) eNil))) (gN 4))
  (sSeq (sIf (tOrD (tB (e2 neD (eMt 0 CR "row_now" (g_Runner_row_now CR)) (eVar 4))) (tOrD (tB (e2 neD (eMt 0 CR "net" (g_Runner_net CR)) (eN tupD (eCons (eVar 2) eNil)))) (tB (e2 neD (eMt 0 CR "tally" (g_Runner_tally CR)) (eN mkT (eCons (eN lenD (eCons (eVar 2) eNil)) (eCons (eN lenD (eCons (eVar 3) eNil)) eNil))))))) (sRet (eC (.bool false))) sNil)
  (sSeq (sAsg (eL (eLc (eNL rg1 (eCons (e2 addD (eN lenD (eCons (eVar 2) eNil)) (eC (.int 1))) eNil)) splN [6] [6] tYesD (eN g_law_run (eCons (eSl (eVar 2) oNo (oSo (eVar 6))) (eCons (eVar 1) eNil))))) (gN 5))
  (sSeq (sIf (tB (e2 neD (eL (eNL listD (eCons (eMt 0 CR "idle" (g_Runner_idle CR)) eNil))) (eL (eLc (eNL rg1 (eCons (eN lenD (eCons (eVar 2) eNil)) eNil)) splN [6] [6] (tB (e2 eqD (e2 idxD (eVar 5) (eVar 6)) (e2 idxD (eVar 5) (e2 addD (eVar 6) (eC (.int 1)))))) (eVar 6))))) (sRet (eC (.bool false))) sNil)
  (sRet (e2 eqD (eMt 0 CR "is_done" (g_Runner_is_done CR)) (e2 eqD (eL (eNL listD (eCons (eVar 4) eNil))) (eL (eNL sortedD (eCons (eVar 4) eNil))))))))))
def g_law_as (CR : Addr) : Fs → List PyData → Option PyData := fnO CR 3 3 (b_law_as CR)
noncomputable def b_law (CR : Addr) : En → Option Out :=
  (sSeq (sAsg (eN g_law_mixed (eCons (eVar 0) (eCons (eC (.int 0)) eNil))) (gN 1))
  (sSeq (sAsg (e2 addD (eC (.int 1)) (e2 modD (eVar 1) (eC (.int 8)))) (gN 2))
  (sSeq (sAsg (eN g_law_row (eCons (eVar 0) (eCons (eC (.int 4)) (eCons (eVar 2) (eCons (eN g_law_mixed (eCons (eVar 0) (eCons (eC (.int 1)) eNil))) eNil))))) (gN 3))
  (sSeq (sMk 4 CR (g_Runner_init CR) (eCons (eVar 3) eNil))
  (sSeq (sPar 5 6 (eL (eNL mkL eNil)) (eL (eNL mkL eNil)))
  (sSeq (sFor (eNL rg1 (eCons (e2 addD (eC (.int 4)) (e2 modD (eN g_law_mixed (eCons (eVar 0) (eCons (eC (.int 2)) eNil))) (eC (.int 21)))) eNil)) (gN 7) (sSeq (sAsg (e2 fdivD (eN g_law_drawn (eCons (eN g_law_mixed (eCons (eVar 0) (eCons (eC (.int 3)) eNil))) (eCons (eVar 7) eNil))) (eC (.int 8))) (gN 8))
  (sSeq (sIf (tB (e2 eqD (e2 modD (eVar 8) (eC (.int 7))) (eC (.int 0)))) (sSeq (sIfM (mCmp neD (qFn 4 CR (g_law_deed CR) (eCons (eC (.str "back")) (eCons (eC (.int 0)) (eCons (eC (.int 0)) eNil)))) (e2 idxD (e2 addD (eSl (eVar 5) (oSo (e1 negD (eC (.int 1)))) oNo) (eL (eNL mkL (eCons (eC (.str "no back")) eNil)))) (eC (.int 0)))) (sRet (eC (.bool false))) sNil)
  (sPar 5 6 (eSl (eVar 5) oNo (oSo (e1 negD (eC (.int 1))))) (e2 addD (eVar 6) (eSl (eVar 5) (oSo (e1 negD (eC (.int 1)))) oNo)))) (sIf (tB (e2 eqD (e2 modD (eVar 8) (eC (.int 7))) (eC (.int 1)))) (sSeq (sIfM (mCmp neD (qFn 4 CR (g_law_deed CR) (eCons (eC (.str "forth")) (eCons (eC (.int 0)) (eCons (eC (.int 0)) eNil)))) (e2 idxD (e2 addD (eSl (eVar 6) (oSo (e1 negD (eC (.int 1)))) oNo) (eL (eNL mkL (eCons (eC (.str "no back")) eNil)))) (eC (.int 0)))) (sRet (eC (.bool false))) sNil)
  (sPar 5 6 (e2 addD (eVar 5) (eSl (eVar 6) (oSo (e1 negD (eC (.int 1)))) oNo)) (eSl (eVar 6) oNo (oSo (e1 negD (eC (.int 1))))))) (sSeq (sAsg (e2 addD (eL (eRep (eRg1 (eVar 2)) (eC (.int 2)))) (eL (eNL mkL (eCons (eVar 2) (eCons (e1 negD (eC (.int 1))) (eCons (eC .none) (eCons (eC (.str "0")) (eCons (eC (.bool true)) eNil)))))))) (gN 9))
  (sSeq (sAsg (e2 idxD (eVar 9) (e2 modD (e2 fdivD (eVar 8) (eC (.int 7))) (eN lenD (eCons (eVar 9) eNil)))) (gN 10))
  (sSeq (sAsg (e2 idxD (eVar 9) (e2 modD (e2 fdivD (eVar 8) (eC (.int 256))) (eN lenD (eCons (eVar 9) eNil)))) (gN 11))
  (sSeq (sAsg (eN g_law_is_swap (eCons (eN mkT (eCons (eVar 10) (eCons (eVar 11) eNil))) (eCons (eVar 2) eNil))) (gN 12))
  (sSeq (sAsg (eC (.str "no swap")) (gN 13))
  (sSeq (sIf (tB (eVar 12)) (sAsg (e2 neD (eN g_law_run (eCons (e2 addD (eVar 5) (eL (eNL mkL (eCons (eN mkT (eCons (eVar 10) (eCons (eVar 11) eNil))) eNil)))) (eCons (eVar 3) eNil))) (eN g_law_run (eCons (eVar 5) (eCons (eVar 3) eNil)))) (gN 13)) sNil)
  (sSeq (sIfM (mCmp neD (qFn 4 CR (g_law_deed CR) (eCons (eC (.str "swap")) (eCons (eVar 10) (eCons (eVar 11) eNil)))) (eVar 13)) (sRet (eC (.bool false))) sNil)
  (sIf (tB (eVar 12)) (sPar 5 6 (e2 addD (eVar 5) (eL (eNL mkL (eCons (eN mkT (eCons (eVar 10) (eCons (eVar 11) eNil))) eNil)))) (eL (eNL mkL eNil))) sNil))))))))))
  (sIf (tNotD (tB (eOb 4 (eFo 4 CR (g_law_as CR) (eCons (eVar 3) (eCons (eVar 5) (eCons (eVar 6) eNil))))))) (sRet (eC (.bool false))) sNil))))
  (sRet (eC (.bool true)))))))))
noncomputable def g_law (CR : Addr) : List PyData → Option PyData := fnD 1 13 (b_law CR)
theorem sp_swapped {r : Nt.Row} {a b : Nat} (h : Nt.SwOk r.length (a, b)) : g_swapped [rowD r, .int (a : Int), .int (b : Int)] = some (rowD (Nt.sw (a, b) r)) := by
  obtain ⟨h1, h2, h3⟩ := h
  simp only at h1 h2
  have e1 := at_row h1
  have e2 := at_row h2
  unfold g_swapped
  rw [fnD_ap (by rfl)]
  simp [b_swapped, rowD, e1, e2, minD2_i, maxD2_i, gSubM_ap, ixN_nat, h1, h2, Nt.sw, Nt.lo, Nt.hi]

theorem run_loop : ∀ (n : Nt.Net) (r : Nt.Row) (N : PyData) (x y : Option W), Nt.Ok r.length n → ∃ x' y', forD (gT 2 (gConsD (gN 2) (gConsD (gN 3) gNilD))) (sAsg (eN g_swapped (eCons (eVar 1) (eCons (eVar 2) (eCons (eVar 3) eNil)))) (gN 1)) (n.map swD) [some (.im N), some (.im (rowD r)), x, y] = some (.nx [some (.im N), some (.im (rowD (Nt.run n r))), x', y'])
  | [], r, N, x, y, _ => ⟨x, y, rfl⟩
  | p :: n, r, N, x, y, ok => by
    obtain ⟨a, b⟩ := p
    obtain ⟨x', y', ih⟩ := run_loop n (Nt.sw (a, b) r) N (some (.im (.int a))) (some (.im (.int b))) (by rw [Nt.sw_len]; exact ok.tail)
    refine ⟨x', y', ?_⟩
    rw [Nt.run_cons, ← ih]
    simp [swD, sp_swapped ok.head]
theorem sp_run {n : Nt.Net} {r : Nt.Row} (ok : Nt.Ok r.length n) : g_run [netD n, rowD r] = some (rowD (Nt.run n r)) := by
  obtain ⟨x, y, h⟩ := run_loop n r (netD n) none none ok
  unfold g_run
  rw [fnD_ap (by rfl)]
  simp [b_run, netD] at h ⊢
  simp [h]

def tupB : PyData → Bool
  | .tuple _ => true
  | _ => false
def boolB : PyData → Bool
  | .bool _ => true
  | _ => false
def wholeB : PyData → Bool
  | .int _ => true
  | _ => false
theorem isi_t (d : PyData) : isiD "tuple" d = some (.bool (tupB d)) := by
  show (kitB (tyN d) "tuple").map PyData.bool = _
  cases d <;> simp only [tyN, tupB] <;> first
    | rw [show kitB "NoneType" "tuple" = some false by decide +kernel]; rfl
    | rw [show kitB "bool" "tuple" = some false by decide +kernel]; rfl
    | rw [show kitB "int" "tuple" = some false by decide +kernel]; rfl
    | rw [show kitB "str" "tuple" = some false by decide +kernel]; rfl
    | rw [show kitB "list" "tuple" = some false by decide +kernel]; rfl
    | rw [show kitB "tuple" "tuple" = some true by decide +kernel]; rfl
    | rw [show kitB "dict" "tuple" = some false by decide +kernel]; rfl
theorem isi_b (d : PyData) : isiD "bool" d = some (.bool (boolB d)) := by
  show (kitB (tyN d) "bool").map PyData.bool = _
  cases d <;> simp only [tyN, boolB] <;> first
    | rw [show kitB "NoneType" "bool" = some false by decide +kernel]; rfl
    | rw [show kitB "bool" "bool" = some true by decide +kernel]; rfl
    | rw [show kitB "int" "bool" = some false by decide +kernel]; rfl
    | rw [show kitB "str" "bool" = some false by decide +kernel]; rfl
    | rw [show kitB "list" "bool" = some false by decide +kernel]; rfl
    | rw [show kitB "tuple" "bool" = some false by decide +kernel]; rfl
    | rw [show kitB "dict" "bool" = some false by decide +kernel]; rfl
theorem isi_i (d : PyData) : isiD "int" d = some (.bool (wholeB d || boolB d)) := by
  show (kitB (tyN d) "int").map PyData.bool = _
  cases d <;> simp only [tyN, boolB, wholeB] <;> first
    | rw [show kitB "NoneType" "int" = some false by decide +kernel]; rfl
    | rw [show kitB "bool" "int" = some true by decide +kernel]; rfl
    | rw [show kitB "int" "int" = some true by decide +kernel]; rfl
    | rw [show kitB "str" "int" = some false by decide +kernel]; rfl
    | rw [show kitB "list" "int" = some false by decide +kernel]; rfl
    | rw [show kitB "tuple" "int" = some false by decide +kernel]; rfl
    | rw [show kitB "dict" "int" = some false by decide +kernel]; rfl
theorem whole1 (d : PyData) : g_is_whole [d] = some (.bool (wholeB d)) := by
  unfold g_is_whole
  rw [fnD_ap (by rfl)]
  simp only [b_is_whole, List.map_cons, List.map_nil, List.replicate, List.cons_append, List.nil_append, sRet_ap, eAnd_ap, eNot_ap, tB_ap, Dv.e1_ap, eVar_0, Option.bind_some, Option.map_some, isi_i, isi_b, asB_b]
  cases d <;> rfl
def inB (w : Nat) : PyData → Bool
  | .int a => decide (0 ≤ a) && decide (a < (w : Int))
  | _ => false
def neB : PyData → PyData → Bool
  | .int a, .int b => !decide (a = b)
  | _, _ => false
def swapB (w : Nat) : PyData → Bool
  | .tuple [x, y] => inB w x && inB w y && neB x y
  | _ => false
theorem in_int {w : Nat} {x : PyData} (h : inB w x = true) : ∃ a, x = .int a := by
  cases x <;> first | exact ⟨_, rfl⟩ | cases h
theorem in_el (w : Nat) (ρ : En) (d : PyData) (h0 : eVar 2 ρ = some d) (h1 : eVar 1 ρ = some (.int (w : Int))) : eAnd (eN g_is_whole (eCons (eVar 2) eNil)) (eChain leD ltD (eC (.int 0)) (eVar 2) (eVar 1)) ρ = some (.bool (inB w d)) := by
  simp only [eAnd_ap, tB_ap, eN_ap, eCons_ap, eNil_ap, h0, h1, Option.bind_some, Option.map_some, whole1, asB_b, eChain_ap, eC_ap]
  cases d <;> simp only [wholeB, Bool.false_eq_true, if_false, if_true, inB, leD_i, ltD_i, Option.bind_some, asB_b, Option.map_some]
  rename_i a
  cases decide ((0 : Int) ≤ a) <;> rfl
theorem len_ne (ds : List PyData) : neD (.int ((ds.length : Nat) : Int)) (.int 2) = some (.bool (!decide (ds.length = 2))) := by
  rw [neD_i]
  congr 3
  rw [decide_eq_decide]
  omega
theorem swap1 (d : PyData) (w : Nat) : g_is_swap [d, .int (w : Int)] = some (.bool (swapB w d)) := by
  unfold g_is_swap
  rw [fnD_ap (by rfl)]
  simp only [b_is_swap, List.map_cons, List.map_nil, List.replicate, List.cons_append, List.nil_append, sSeq_ap]
  cases hd : d with
  | tuple ds =>
    match ds with
    | [x, y] =>
      have lc : lcD splN [2] tYesD (eAnd (eN g_is_whole (eCons (eVar 2) eNil)) (eChain leD ltD (eC (.int 0)) (eVar 2) (eVar 1))) [some (.im (.tuple [x, y])), some (.im (.int (w : Int))), none] [x, y] = some [.bool (inB w x), .bool (inB w y)] := by
        have := lcD_mapN (i := 2) (fe := (eAnd (eN g_is_whole (eCons (eVar 2) eNil)) (eChain leD ltD (eC (.int 0)) (eVar 2) (eVar 1)))) (ρ := [some (.im (.tuple [x, y])), some (.im (.int (w : Int))), none]) (fun d : PyData => d) (fun d => .bool (inB w d)) [x, y] fun d _ => in_el w _ d rfl rfl
        exact this
      have al : allD [.list [.bool (inB w x), .bool (inB w y)]] = some (.bool (inB w x && inB w y)) := by
        have e := bools_map [inB w x, inB w y]
        have e' : bools [.bool (inB w x), .bool (inB w y)] = some [inB w x, inB w y] := e
        unfold allD
        simp only [e', Option.map_some, List.all_cons, List.all_nil, id, Bool.and_true]
      have i0 : atI [x, y] 0 = some x := rfl
      have i1 : atI [x, y] 1 = some y := rfl
      have l2 : neD (.int (([x, y].length : Nat) : Int)) (.int 2) = some (.bool false) := by rw [len_ne]; rfl
      simp only [sIf_ap, tOrD_ap, tNotD_ap, tB_ap, Dv.e1_ap, Dv.e2_ap, eVar_0, eVar_s, Option.bind_some, isi_t, tupB, asB_b, Option.map_some, Bool.not_true, Bool.false_eq_true, if_false, eN_ap, eCons_ap, eNil_ap, lenD_t, eC_ap, l2, sNil_ap, thenD_nx, sRet_ap, eAnd_ap (f := eN allD _), eL_ap, eLc_ap, iSq_ap, asSeq_t, wipeE_c, wipeE_0, List.set_cons_succ, List.set_cons_zero, lc, al, idxD_t, i0, i1]
      cases h : (inB w x && inB w y)
      · simp only [Bool.false_eq_true, if_false, Option.map_some, outD_rt, swapB, h, Bool.false_and]
      · have h' := h
        rw [Bool.and_eq_true] at h'
        obtain ⟨a, rfl⟩ := in_int h'.1
        obtain ⟨b, rfl⟩ := in_int h'.2
        simp only [if_true, neD_i, Option.map_some, outD_rt, swapB, h, Bool.true_and, neB]
    | [] =>
      have l2 : neD (.int ((([] : List PyData).length : Nat) : Int)) (.int 2) = some (.bool true) := by rw [len_ne]; rfl
      simp only [sIf_ap, tOrD_ap, tNotD_ap, tB_ap, Dv.e1_ap, Dv.e2_ap, eVar_0, eVar_s, Option.bind_some, isi_t, tupB, asB_b, Option.map_some, Bool.not_true, Bool.not_false, Bool.false_eq_true, if_false, if_true, eN_ap, eCons_ap, eNil_ap, lenD_t, eC_ap, l2, sRet_ap, thenD_rt, outD_rt, swapB]
    | [x] =>
      have l2 : neD (.int (([x].length : Nat) : Int)) (.int 2) = some (.bool true) := by rw [len_ne]; rfl
      simp only [sIf_ap, tOrD_ap, tNotD_ap, tB_ap, Dv.e1_ap, Dv.e2_ap, eVar_0, eVar_s, Option.bind_some, isi_t, tupB, asB_b, Option.map_some, Bool.not_true, Bool.not_false, Bool.false_eq_true, if_false, if_true, eN_ap, eCons_ap, eNil_ap, lenD_t, eC_ap, l2, sRet_ap, thenD_rt, outD_rt, swapB]
    | x :: y :: z :: ds =>
      have l2 : neD (.int (((x :: y :: z :: ds).length : Nat) : Int)) (.int 2) = some (.bool true) := by rw [len_ne, decide_eq_false (by simp)]; rfl
      simp only [sIf_ap, tOrD_ap, tNotD_ap, tB_ap, Dv.e1_ap, Dv.e2_ap, eVar_0, eVar_s, Option.bind_some, isi_t, tupB, asB_b, Option.map_some, Bool.not_true, Bool.not_false, Bool.false_eq_true, if_false, if_true, eN_ap, eCons_ap, eNil_ap, lenD_t, eC_ap, l2, sRet_ap, thenD_rt, outD_rt, swapB]
  | _ =>
    simp only [sIf_ap, tOrD_ap, tNotD_ap, tB_ap, Dv.e1_ap, eVar_0, Option.bind_some, isi_t, tupB, asB_b, Option.map_some, Bool.not_false, if_true, sRet_ap, eC_ap, thenD_rt, outD_rt, swapB]
def netB (w : Nat) : PyData → Bool
  | .tuple ds => decide (ds.length ≤ 40) && ds.all (swapB w)
  | _ => false
theorem all_true (ds : List PyData) (f : PyData → Bool) : allD [.list (ds.map fun d => .bool (f d))] = some (.bool (ds.all f)) := by
  have e := bools_map (ds.map f)
  rw [List.map_map] at e
  have e' : bools (ds.map fun d => .bool (f d)) = some (ds.map f) := e
  unfold allD
  simp only [e', Option.map_some, List.all_map]
  rfl
theorem net1 (d : PyData) (w : Nat) : g_is_net [d, .int (w : Int)] = some (.bool (netB w d)) := by
  unfold g_is_net
  rw [fnD_ap (by rfl)]
  simp only [b_is_net, List.map_cons, List.map_nil, List.replicate, List.cons_append, List.nil_append, sRet_ap, eAnd_ap, tB_ap, Dv.e1_ap, eVar_0, Option.bind_some, isi_t, asB_b]
  cases d with
  | tuple ds =>
    have lc : lcD splN [2] tYesD (eN g_is_swap (eCons (eVar 2) (eCons (eVar 1) eNil))) [some (.im (.tuple ds)), some (.im (.int (w : Int))), none] ds = some (ds.map fun d => .bool (swapB w d)) := by
      have := lcD_mapN (i := 2) (fe := eN g_is_swap (eCons (eVar 2) (eCons (eVar 1) eNil))) (ρ := [some (.im (.tuple ds)), some (.im (.int (w : Int))), none]) (fun d : PyData => d) (fun d => .bool (swapB w d)) ds fun d _ => by
        simp only [eN_ap, eCons_ap, eNil_ap, eVar_s, eVar_0, List.set_cons_succ, List.set_cons_zero, Option.bind_some, Option.map_some, swap1]
      rw [List.map_id'] at this
      exact this
    have al := all_true ds (swapB w)
    have c : decide ((ds.length : Int) ≤ 40) = decide (ds.length ≤ 40) := by rw [decide_eq_decide]; omega
    simp only [tupB, if_true, Dv.e2_ap, eN_ap, eCons_ap, eNil_ap, eVar_0, Option.bind_some, Option.map_some, lenD_t, eC_ap, leD_i, c, asB_b, eL_ap, eLc_ap, iSq_ap, asSeq_t, wipeE_c, wipeE_0, List.set_cons_succ, List.set_cons_zero, lc, al, netB]
    cases decide (ds.length ≤ 40) <;> rfl
  | _ => rfl

def FsR (r : Nt.Row) (s g : Nt.Net) : Fs := [("first", rowD r), ("swaps", netD s), ("gone", netD g)]
section
variable {r : Nt.Row} {s g : Nt.Net}
theorem lk_first : (FsR r s g).lookup ("first" : Str) = some (rowD r) := by
  unfold FsR
  rw [List.lookup_cons]
  rw [show (("first" : Str) == "first") = true by decide +kernel]
theorem lk_swaps : (FsR r s g).lookup ("swaps" : Str) = some (netD s) := by
  unfold FsR
  rw [List.lookup_cons, List.lookup_cons]
  rw [show (("swaps" : Str) == "first") = false by decide +kernel, show (("swaps" : Str) == "swaps") = true by decide +kernel]
theorem lk_gone : (FsR r s g).lookup ("gone" : Str) = some (netD g) := by
  unfold FsR
  rw [List.lookup_cons, List.lookup_cons, List.lookup_cons]
  rw [show (("gone" : Str) == "first") = false by decide +kernel, show (("gone" : Str) == "swaps") = false by decide +kernel, show (("gone" : Str) == "gone") = true by decide +kernel]
theorem lk_no {m : Str} (h1 : (m == "first") = false) (h2 : (m == "swaps") = false) (h3 : (m == "gone") = false) : (FsR r s g).lookup m = none := by
  unfold FsR
  rw [List.lookup_cons, List.lookup_cons, List.lookup_cons, h1, h2, h3]
  rfl
theorem lk_1 : (FsR r s g).lookup ("row_now" : Str) = none := lk_no (by decide +kernel) (by decide +kernel) (by decide +kernel)
theorem lk_2 : (FsR r s g).lookup ("swap" : Str) = none := lk_no (by decide +kernel) (by decide +kernel) (by decide +kernel)
theorem lk_3 : (FsR r s g).lookup ("net" : Str) = none := lk_no (by decide +kernel) (by decide +kernel) (by decide +kernel)
theorem lk_4 : (FsR r s g).lookup ("idle" : Str) = none := lk_no (by decide +kernel) (by decide +kernel) (by decide +kernel)
theorem lk_5 : (FsR r s g).lookup ("is_done" : Str) = none := lk_no (by decide +kernel) (by decide +kernel) (by decide +kernel)
theorem lk_6 : (FsR r s g).lookup ("back" : Str) = none := lk_no (by decide +kernel) (by decide +kernel) (by decide +kernel)
theorem lk_7 : (FsR r s g).lookup ("forth" : Str) = none := lk_no (by decide +kernel) (by decide +kernel) (by decide +kernel)
theorem lk_8 : (FsR r s g).lookup ("tally" : Str) = none := lk_no (by decide +kernel) (by decide +kernel) (by decide +kernel)
theorem lk_9 : (FsR r s g).lookup ("twin" : Str) = none := lk_no (by decide +kernel) (by decide +kernel) (by decide +kernel)
theorem put_first (r' : Nt.Row) : putO "first" (rowD r') [] = ([("first", rowD r')] : Fs) := rfl
theorem put_sw0 (r' : Nt.Row) (n : Nt.Net) : putO "swaps" (netD n) ([("first", rowD r')] : Fs) = ([("first", rowD r'), ("swaps", netD n)] : Fs) := by
  unfold putO
  rw [if_neg (by decide +kernel)]
  rfl
theorem put_gn0 (r' : Nt.Row) (n m : Nt.Net) : putO "gone" (netD m) ([("first", rowD r'), ("swaps", netD n)] : Fs) = FsR r' n m := by
  unfold putO
  rw [if_neg (by decide +kernel)]
  unfold putO
  rw [if_neg (by decide +kernel)]
  rfl
theorem put_swaps (n : Nt.Net) : putO "swaps" (netD n) (FsR r s g) = FsR r n g := by
  unfold FsR putO
  rw [if_neg (by decide +kernel)]
  unfold putO
  rw [if_pos rfl]
theorem put_gone (n : Nt.Net) : putO "gone" (netD n) (FsR r s g) = FsR r s n := by
  unfold FsR putO
  rw [if_neg (by decide +kernel)]
  unfold putO
  rw [if_neg (by decide +kernel)]
  unfold putO
  rw [if_pos rfl]
theorem fs_len : (FsR r s g).length < 900 := by show 3 < 900; decide
end
theorem netD_nil : netD [] = .tuple [] := rfl
theorem mkT_nil : mkT [] = some (netD []) := mkT_ap (by simp)
theorem sp_init {CR a dx : Addr} (r : Nt.Row) : g_Runner_init CR a dx [] [rowD r] = some (.ok .none, FsR r [] []) := by
  unfold g_Runner_init
  rw [fnM_ap (by rfl)]
  have l0 : ([] : Fs).length < 900 := by decide
  have l1 : ([("first", rowD r)] : Fs).length < 900 := by show 1 < 900; decide
  have l2 : ([("first", rowD r), ("swaps", netD [])] : Fs).length < 900 := by show 2 < 900; decide
  simp only [b_Runner_init, List.map_cons, List.map_nil, List.replicate, List.nil_append, List.cons_append, List.append_nil, mSeq_ap, mO_ap, sPut_ap, eVar_s, eVar_0, Option.bind_some, obOf_so, l0, if_true, setO_so, Option.map_some, toM_nx, thenM_nx, eN_ap, eNil_ap, mkT_nil, put_first, l1, put_sw0, l2, put_gn0, outM_nx, soFs_0]
theorem al_init (CR : Addr) (r : Nt.Row) : allM (g_Runner_init CR) [] [rowD r] = some (.ok .none, FsR r [] []) := allM_eq fun _ _ => sp_init r

theorem sp_row_now {CR : Addr} {r : Nt.Row} {s g : Nt.Net} (ok : Nt.Ok r.length s) : g_Runner_row_now CR (FsR r s g) [] = some (rowD (Nt.run s r)) := by
  unfold g_Runner_row_now
  rw [fnO_ap (by rfl)]
  simp only [b_Runner_row_now, List.map_nil, List.replicate, List.nil_append, sRet_ap, eN_ap, eCons_ap, eNil_ap, eAt_ap, fsOf_fo, Option.bind_some, lk_first, lk_swaps, Option.map_some, sp_run ok, outD_rt]

theorem neD_rows (q r : Nt.Row) : neD (rowD q) (rowD r) = some (.bool (decide (q ≠ r))) := by
  rw [neD_pl (p := q = r) (pl_row _) (pl_row _) rowD_inj]
  by_cases h : q = r
  · simp [h]
  · simp [h]
theorem eqD_rows (q r : Nt.Row) : eqD (rowD q) (rowD r) = some (.bool (decide (q = r))) := by
  rw [eqD_pl (p := q = r) (pl_row _) (pl_row _) rowD_inj]
theorem net_one {w : Nat} {p : Nt.Sw} (h : Nt.SwOk w p) : g_is_net [.tuple [swD p], .int (w : Int)] = some (.bool true) := by
  rw [net1]
  obtain ⟨h1, h2, h3⟩ := h
  have h3' : ¬ (p.1 : Int) = (p.2 : Int) := by omega
  simp [netB, swD, swapB, inB, neB, h1, h2, h3']
theorem sp_rswap {CR a dx : Addr} {r : Nt.Row} {s g : Nt.Net} {p : Nt.Sw} (ok : Nt.Ok r.length s) (hp : Nt.SwOk r.length p) (hl : s.length ≤ 5000) : g_Runner_swap CR a dx (FsR r s g) [.int p.1, .int p.2] = some (.ok (.bool (decide (Nt.run (s ++ [p]) r ≠ Nt.run s r))), FsR r (s ++ [p]) []) := by
  unfold g_Runner_swap
  rw [fnM_ap (by rfl)]
  have t2 : mkT [.int (p.1 : Int), .int (p.2 : Int)] = some (swD p) := mkT_ap (by simp)
  have t1 : mkT [swD p] = some (netD [p]) := mkT_ap (by simp)
  have n1 : g_is_net [netD [p], .int (r.length : Int)] = some (.bool true) := net_one hp
  have ln : lenD [rowD r] = some (.int (r.length : Int)) := by unfold rowD; rw [lenD_t, List.length_map]
  have ok2 : Nt.Ok r.length (s ++ [p]) := ok.app (.cons hp (.nil _))
  have ad : addD (netD s) (netD [p]) = some (netD (s ++ [p])) := add_net (by simp; omega)
  simp only [b_Runner_swap, List.map_cons, List.map_nil, List.replicate, List.nil_append, List.cons_append, List.append_nil, mSeq_ap, mIf_ap, tNotD_ap, tB_ap, eN_ap, eCons_ap, eNil_ap, eVar_s, eVar_0, Option.bind_some, Option.map_some, t2, t1, eAt_ap, fsOf_so, lk_first, ln, n1, asB_b, Bool.not_true, Bool.false_eq_true, if_false, mO_ap, sNil_ap, toM_nx, thenM_nx,
    sAsg_ap, eOb_ap, isOb_so, if_true, frO_so, eMt_ap, foOf_fo, lk_1, sp_row_now ok, sp_row_now ok2, gN_ap, List.set_cons_succ, List.set_cons_zero, sPut_ap, Dv.e2_ap, lk_swaps, ad, obOf_so, fs_len, put_swaps, setO_so, mkT_nil, put_gone, mRet_ap, neD_rows, outM_rt, soFs_0]
theorem al_swap (CR : Addr) {r : Nt.Row} {s g : Nt.Net} {p : Nt.Sw} (ok : Nt.Ok r.length s) (hp : Nt.SwOk r.length p) (hl : s.length ≤ 5000) : allM (g_Runner_swap CR) (FsR r s g) [.int p.1, .int p.2] = some (.ok (.bool (decide (Nt.run (s ++ [p]) r ≠ Nt.run s r))), FsR r (s ++ [p]) []) := allM_eq fun _ _ => sp_rswap ok hp hl

theorem sp_netm {CR : Addr} {r : Nt.Row} {s g : Nt.Net} : g_Runner_net CR (FsR r s g) [] = some (netD s) := by
  unfold g_Runner_net
  rw [fnO_ap (by rfl)]
  simp only [b_Runner_net, List.map_nil, List.replicate, List.nil_append, sRet_ap, eAt_ap, fsOf_fo, Option.bind_some, lk_swaps, Option.map_some, outD_rt]

def idleB (s : Nt.Net) (r : Nt.Row) (k : Nat) : Bool := decide (Nt.run (s.take k) r = Nt.run (s.take (k + 1)) r)
def idleT (s : Nt.Net) (r : Nt.Row) : List Nat := (List.range s.length).filter (idleB s r)
def idleD (s : Nt.Net) (r : Nt.Row) : PyData := .tuple ((idleT s r).map fun k => PyData.int ((k : Nat) : Int))
theorem idle_loop {CR : Addr} {r : Nt.Row} {s g : Nt.Net} (ok : Nt.Ok r.length s) : ∀ (ks : List Nat) (acc : List PyData) (x : Option W), acc.length + ks.length < 16777216 → ∃ y,
    forD (gN 2) (sIf (tB (Dv.e2 eqD (eN g_run (eCons (eSl (eAt 0 CR "swaps") oNo (oSo (eVar 2))) (eCons (eAt 0 CR "first") eNil))) (eN g_run (eCons (eSl (eAt 0 CR "swaps") oNo (oSo (Dv.e2 addD (eVar 2) (eC (.int 1))))) (eCons (eAt 0 CR "first") eNil))))) (sApp 1 (eVar 2)) sNil) (ks.map fun k => PyData.int ((k : Nat) : Int)) [some (.fo CR (FsR r s g)), some (.ml acc), x] = some (.nx [some (.fo CR (FsR r s g)), some (.ml (acc ++ (ks.filter (idleB s r)).map fun k => .int ((k : Nat) : Int))), y])
  | [], acc, x, _ => ⟨x, by simp⟩
  | k :: ks, acc, x, hl => by
    have hl' : acc.length + (ks.length + 1) < 16777216 := hl
    have c1 : slD none (some ((k : Nat) : Int)) (netD s) = some (netD (s.take k)) := cut_net_to s k
    have c2 : slD none (some ((k : Int) + 1)) (netD s) = some (netD (s.take (k + 1))) := cut_net_to s (k + 1)
    have r1 := sp_run (ok.take k)
    have r2 := sp_run (ok.take (k + 1))
    rw [List.map_cons, forD_cons]
    by_cases hb : Nt.run (s.take k) r = Nt.run (s.take (k + 1)) r
    · obtain ⟨y, ih⟩ := idle_loop (CR := CR) (g := g) ok ks (acc ++ [.int (k : Int)]) (some (.im (.int (k : Int)))) (by rw [List.length_append]; show acc.length + 1 + ks.length < _; omega)
      refine ⟨y, ?_⟩
      simp only [gN_ap, List.set_cons_succ, List.set_cons_zero, Option.bind_some, sIf_ap, tB_ap, Dv.e2_ap, eN_ap, eCons_ap, eNil_ap, eSl_ap, eAt_ap, fsOf_fo, lk_swaps, lk_first, oNo_ap, oSo_ap, eVar_s, eVar_0, eC_ap, asI_i, addD_i, Option.map_some, c1, c2, r1, r2, eqD_rows, asB_b, decide_eq_true hb, if_true, sApp_ap, appK_s, appK_0 (show acc.length < 16777216 by omega), loopD_nx, ih]
      rw [List.filter_cons_of_pos (show idleB s r k = true from decide_eq_true hb), List.map_cons, List.append_assoc]
      rfl
    · obtain ⟨y, ih⟩ := idle_loop (CR := CR) (g := g) ok ks acc (some (.im (.int (k : Int)))) (by omega)
      refine ⟨y, ?_⟩
      simp only [gN_ap, List.set_cons_succ, List.set_cons_zero, Option.bind_some, sIf_ap, tB_ap, Dv.e2_ap, eN_ap, eCons_ap, eNil_ap, eSl_ap, eAt_ap, fsOf_fo, lk_swaps, lk_first, oNo_ap, oSo_ap, eVar_s, eVar_0, eC_ap, asI_i, addD_i, Option.map_some, c1, c2, r1, r2, eqD_rows, asB_b, decide_eq_false hb, Bool.false_eq_true, if_false, sNil_ap, loopD_nx, ih]
      rw [List.filter_cons_of_neg (show ¬ idleB s r k = true from fun h => hb (of_decide_eq_true h))]
theorem sp_idle {CR : Addr} {r : Nt.Row} {s g : Nt.Net} (ok : Nt.Ok r.length s) (hl : s.length ≤ 5000) : g_Runner_idle CR (FsR r s g) [] = some (idleD s r) := by
  unfold g_Runner_idle
  rw [fnO_ap (by rfl)]
  obtain ⟨y, h⟩ := idle_loop (CR := CR) (g := g) ok (List.range s.length) [] none (by rw [List.length_range]; show 0 + _ < _; omega)
  have rg : rg1 [.int (s.length : Int)] = some ((List.range s.length).map fun k => PyData.int ((k : Nat) : Int)) := by
    rw [rg1_i (by omega), Int.toNat_natCast, rng0]
  simp only [b_Runner_idle, List.map_nil, List.replicate, List.nil_append, List.cons_append, sSeq_ap, sAsgL_ap, eNL_ap, eNil_ap, mkL_0, Option.bind_some, Option.map_some, List.set_cons_succ, List.set_cons_zero, thenD_nx, sFor_ap, eCons_ap, eN_ap, eAt_ap, fsOf_fo, lk_swaps, len_net, rg, h, sRet_ap, eTupM_s, eTupM_0, outD_rt]
  rfl

def sortedB (q : Nt.Row) : Bool := decide (q = srt q)
theorem eqD_il (a b : List Int) : eqD (.list (a.map PyData.int)) (.list (b.map PyData.int)) = some (.bool (decide (a = b))) := by
  have hp : ∀ n : List Int, pl 1 (.list (n.map PyData.int)) := fun n => pl_list fun d hd => by
    obtain ⟨p, _, rfl⟩ := List.mem_map.mp hd
    exact pl_int
  rw [eqD_pl (p := a = b) (hp a) (hp b) ⟨fun h => ints_inj (PyData.list.inj h), fun h => by rw [h]⟩]
theorem sp_is_done {CR : Addr} {r : Nt.Row} {s g : Nt.Net} (ok : Nt.Ok r.length s) : g_Runner_is_done CR (FsR r s g) [] = some (.bool (sortedB (Nt.run s r))) := by
  unfold g_Runner_is_done
  rw [fnO_ap (by rfl)]
  have rn := sp_row_now (CR := CR) (g := g) ok
  have s1 : sortedD [rowD (Nt.run s r)] = some ((srt (Nt.run s r)).map PyData.int) := sortedD_t _
  have l1 : listD [rowD (Nt.run s r)] = some ((Nt.run s r).map PyData.int) := rfl
  simp only [b_Runner_is_done, List.map_nil, List.replicate, List.nil_append, sRet_ap, Dv.e2_ap, eL_ap, eNL_ap, eCons_ap, eNil_ap, eMt_ap, foOf_fo, Option.bind_some, lk_1, if_true, rn, Option.map_some, l1, s1, eqD_il, outD_rt, sortedB]

theorem at_last {α : Type} (ds : List α) (d : α) : atI (ds ++ [d]) (-1) = some d := by
  have h : ixN (ds ++ [d]).length (-1) = some ds.length := by
    unfold ixN
    rw [if_neg (by decide), List.length_append]
    simp
    omega
  unfold atI
  rw [h, Option.bind_some]
  simp
theorem eqD_nets (q r : Nt.Net) : eqD (netD q) (netD r) = some (.bool (decide (q = r))) := by
  rw [eqD_pl (p := q = r) (pl_net _) (pl_net _) netD_inj]
theorem neD_nets (q r : Nt.Net) : neD (netD q) (netD r) = some (.bool (!decide (q = r))) := by
  rw [neD_pl (p := q = r) (pl_net _) (pl_net _) netD_inj]
theorem net_last_ (s : Nt.Net) (p : Nt.Sw) : idxD (netD (s ++ [p])) (.int (-1)) = some (swD p) := by
  unfold netD
  rw [idxD_t, List.map_append]
  exact at_last _ _
theorem net_but (s : Nt.Net) (p : Nt.Sw) : slD none (some (-1)) (netD (s ++ [p])) = some (netD s) := by
  unfold netD
  rw [slD_t, cut_last, List.map_append]
  simp
theorem sp_back {CR a dx : Addr} {r : Nt.Row} {s g : Nt.Net} {p : Nt.Sw} (hl : g.length ≤ 5000) : g_Runner_back CR a dx (FsR r (s ++ [p]) g) [] = some (.ok (swD p), FsR r s (g ++ [p])) := by
  unfold g_Runner_back
  rw [fnM_ap (by rfl)]
  have t1 : mkT [swD p] = some (netD [p]) := mkT_ap (by simp)
  have ne : decide (s ++ [p] = []) = false := decide_eq_false (by simp)
  have ad : addD (netD g) (netD [p]) = some (netD (g ++ [p])) := add_net (by simp; omega)
  have m1 : -(1 : Int) = -1 := rfl
  simp only [b_Runner_back, List.map_nil, List.replicate, List.nil_append, mSeq_ap, mIf_ap, tB_ap, Dv.e2_ap, eAt_ap, fsOf_so, Option.bind_some, lk_swaps, lk_gone, eN_ap, eNil_ap, mkT_nil, eqD_nets, ne, asB_b, Bool.false_eq_true, if_false, mO_ap, sNil_ap, toM_nx, thenM_nx, sAsg_ap, Dv.e1_ap, eC_ap, negD_i, m1, net_last_, gN_ap, List.set_cons_succ, List.set_cons_zero, Option.map_some,
    sPut_ap, eSl_ap, oNo_ap, oSo_ap, asI_i, net_but, obOf_so, fs_len, if_true, put_swaps, setO_so, eCons_ap, eVar_s, eVar_0, t1, ad, put_gone, mRet_ap, outM_rt, soFs_0]
theorem al_back (CR : Addr) {r : Nt.Row} {s g : Nt.Net} {p : Nt.Sw} (hl : g.length ≤ 5000) : allM (g_Runner_back CR) (FsR r (s ++ [p]) g) [] = some (.ok (swD p), FsR r s (g ++ [p])) := allM_eq fun _ _ => sp_back hl

theorem sp_forth {CR a dx : Addr} {r : Nt.Row} {s g : Nt.Net} {p : Nt.Sw} (hl : s.length ≤ 5000) : g_Runner_forth CR a dx (FsR r s (g ++ [p])) [] = some (.ok (swD p), FsR r (s ++ [p]) g) := by
  unfold g_Runner_forth
  rw [fnM_ap (by rfl)]
  have t1 : mkT [swD p] = some (netD [p]) := mkT_ap (by simp)
  have ne : decide (g ++ [p] = []) = false := decide_eq_false (by simp)
  have ad : addD (netD s) (netD [p]) = some (netD (s ++ [p])) := add_net (by simp; omega)
  have m1 : -(1 : Int) = -1 := rfl
  simp only [b_Runner_forth, List.map_nil, List.replicate, List.nil_append, mSeq_ap, mIf_ap, tB_ap, Dv.e2_ap, eAt_ap, fsOf_so, Option.bind_some, lk_swaps, lk_gone, eN_ap, eNil_ap, mkT_nil, eqD_nets, ne, asB_b, Bool.false_eq_true, if_false, mO_ap, sNil_ap, toM_nx, thenM_nx, sAsg_ap, Dv.e1_ap, eC_ap, negD_i, m1, net_last_, gN_ap, List.set_cons_succ, List.set_cons_zero, Option.map_some,
    sPut_ap, eSl_ap, oNo_ap, oSo_ap, asI_i, net_but, obOf_so, fs_len, if_true, put_swaps, setO_so, eCons_ap, eVar_s, eVar_0, t1, ad, put_gone, mRet_ap, outM_rt, soFs_0]
theorem al_forth (CR : Addr) {r : Nt.Row} {s g : Nt.Net} {p : Nt.Sw} (hl : s.length ≤ 5000) : allM (g_Runner_forth CR) (FsR r s (g ++ [p])) [] = some (.ok (swD p), FsR r (s ++ [p]) g) := allM_eq fun _ _ => sp_forth hl

def tallyD (s g : Nt.Net) : PyData := .tuple [.int (s.length : Int), .int (g.length : Int)]
theorem sp_tally {CR : Addr} {r : Nt.Row} {s g : Nt.Net} : g_Runner_tally CR (FsR r s g) [] = some (tallyD s g) := by
  unfold g_Runner_tally
  rw [fnO_ap (by rfl)]
  have t2 : mkT [.int (s.length : Int), .int (g.length : Int)] = some (tallyD s g) := mkT_ap (by simp)
  simp only [b_Runner_tally, List.map_nil, List.replicate, List.nil_append, sRet_ap, eN_ap, eCons_ap, eNil_ap, eAt_ap, fsOf_fo, Option.bind_some, lk_swaps, lk_gone, Option.map_some, len_net, t2, outD_rt]

theorem sp_cell_at (ns : List Int) (k : Nat) : g_law_cell_at [.list (ns.map PyData.int), .int (k : Int)] = some (.int (ns.getD k 0)) := by
  unfold g_law_cell_at
  rw [fnD_ap (by rfl)]
  by_cases h : k < ns.length
  · have e := at_row h
    simp [b_law_cell_at, h]
    simp [e, List.getElem?_eq_getElem h]
  · have e : ns[k]? = none := List.getElem?_eq_none (by omega)
    simp [b_law_cell_at, h, e]

theorem sp_mixed (ns : List Int) (k : Nat) (hk : k ≤ 1000) : ∃ m : Nat, g_law_mixed [.list (ns.map PyData.int), .int (k : Int)] = some (.int (m : Int)) ∧ m < 2147483629 := by
  have hc := sp_cell_at ns k
  generalize ns.getD k 0 = c at hc
  unfold g_law_mixed
  rw [fnD_ap (by rfl)]
  have d0 := Int.emod_nonneg ((c + 7919 * (k : Int) + 1) * 48271) (show (2147483647 : Int) ≠ 0 by decide)
  have d1 := Int.emod_lt_of_pos ((c + 7919 * (k : Int) + 1) * 48271) (show (0 : Int) < 2147483647 by decide)
  generalize hd : (c + 7919 * (k : Int) + 1) * 48271 % 2147483647 = d at d0 d1
  have r0 := Int.emod_nonneg (d * d + 7 * d + (k : Int)) (show (2147483629 : Int) ≠ 0 by decide)
  have r1 := Int.emod_lt_of_pos (d * d + 7 * d + (k : Int)) (show (0 : Int) < 2147483629 by decide)
  refine ⟨((d * d + 7 * d + (k : Int)) % 2147483629).toNat, ?_, by omega⟩
  simp [b_law_mixed, hc]
  rw [mulD_l (by omega)]
  simp
  rw [mulD_r (by omega)]
  simp [modD_i (show (0 : Int) < 2147483647 by decide), hd]
  rw [mulD_l (by omega), mulD_l (by omega)]
  simp [modD_i (show (0 : Int) < 2147483629 by decide)]
  omega
theorem mx (ns : List Int) (k : Int) (h : 0 ≤ k ∧ k ≤ 1000 := by decide) : ∃ m : Nat, g_law_mixed [.list (ns.map PyData.int), .int k] = some (.int (m : Int)) ∧ m < 2147483629 := by
  obtain ⟨j, rfl⟩ : ∃ j : Nat, k = (j : Int) := ⟨k.toNat, by omega⟩
  exact sp_mixed ns j (by omega)
theorem wide_of (m : Nat) (k : Nat) (c : Nat) (hk : 0 < k := by decide) : ∃ w : Nat, (c : Int) + (m : Int) % (k : Int) = (w : Int) ∧ c ≤ w ∧ w < c + k :=
  ⟨c + m % k, by rw [Int.natCast_add, Int.natCast_emod], by omega, by have := Nat.mod_lt m hk; omega⟩

def drawnT (x k : Int) : Int := ((x + 104729 * k + 17) * 69621 % 2147483647 * ((x + 104729 * k + 17) * 69621 % 2147483647) + 3 * ((x + 104729 * k + 17) * 69621 % 2147483647) + k) % 2147483629
theorem drawnT_nn (x k : Int) : 0 ≤ drawnT x k := Int.emod_nonneg _ (by decide)
theorem drawnT_lt (x k : Int) : drawnT x k < 2147483629 := Int.emod_lt_of_pos _ (by decide)
theorem sp_drawn (x k : Int) : g_law_drawn [.int x, .int k] = some (.int (drawnT x k)) := by
  unfold g_law_drawn drawnT
  rw [fnD_ap (by rfl)]
  have d0 := Int.emod_nonneg ((x + 104729 * k + 17) * 69621) (show (2147483647 : Int) ≠ 0 by decide)
  have d1 := Int.emod_lt_of_pos ((x + 104729 * k + 17) * 69621) (show (0 : Int) < 2147483647 by decide)
  simp [b_law_drawn]
  rw [mulD_l (by omega)]
  simp
  rw [mulD_r (by omega)]
  simp [modD_i (show (0 : Int) < 2147483647 by decide)]
  generalize (x + 104729 * k + 17) * 69621 % 2147483647 = d at d0 d1 ⊢
  rw [mulD_l (by omega), mulD_l (by omega)]
  simp [modD_i (show (0 : Int) < 2147483629 by decide)]

theorem sp_row (ns : List Int) (a w x : Nat) (hw : w ≤ 8) (ha : a ≤ 100) : ∃ r : Nt.Row, g_law_row [.list (ns.map PyData.int), .int (a : Int), .int (w : Int), .int (x : Int)] = some (rowD r) ∧ r.length = w := by
  unfold g_law_row
  rw [fnD_ap (by rfl)]
  have e0 : rg1 [.int (w : Int)] = some ((List.range w).map fun i => PyData.int ((i : Nat) : Int)) := by
    rw [rg1_i ⟨by omega, by omega⟩, rng0]
    rfl
  have e1 : ∀ o : List (Option W), lcD splN [5] tYesD (eN g_law_cell_at (eCons (eVar 0) (eCons (e2 addD (eVar 1) (eVar 5)) eNil))) (some (.im (.list (ns.map PyData.int))) :: some (.im (.int (a : Int))) :: some (.im (.int (w : Int))) :: some (.im (.int (x : Int))) :: none :: none :: o) ((List.range w).map fun i => PyData.int ((i : Nat) : Int)) = some (((List.range w).map fun i => ns.getD (a + i) 0).map .int) := fun o => by
    rw [lcD_mapN _ (fun i => .int (ns.getD (a + i) 0))]
    · rw [List.map_map]; rfl
    · intro i _
      have := sp_cell_at ns (a + i)
      rw [show ((a + i : Nat) : Int) = (a : Int) + (i : Int) by omega] at this
      simp [this]
  have g3 : (0 : Int) < 3 := by decide
  have g2 : (0 : Int) < 2 := by decide
  have g4 : (0 : Int) < 4 := by decide
  have f3 : (0 : Int) < 3 ∧ (3 : Int) < 1073741824 := by decide
  generalize hr0 : (List.range w).map (fun i => ns.getD (a + i) 0) = r0 at e1
  have hl0 : r0.length = w := by rw [← hr0, List.length_map, List.length_range]
  have e2 : ∀ ρ : En, ρ = [some (.im (.list (ns.map PyData.int))), some (.im (.int (a : Int))), some (.im (.int (w : Int))), some (.im (.int (x : Int))), some (.im (.list (r0.map .int))), none, none] → lcD splN [6] tYesD (e2 modD (eVar 6) (eC (.int 2))) ρ (r0.map .int) = some ((r0.map fun v => v % 2).map .int) := fun ρ h => by
    subst h
    rw [lcD_mapN _ (fun v => .int (v % 2))]
    · rw [List.map_map]; rfl
    · intro i _
      simp [modD_i g2]
  have e3 : ∀ ρ : En, ρ = [some (.im (.list (ns.map PyData.int))), some (.im (.int (a : Int))), some (.im (.int (w : Int))), some (.im (.int (x : Int))), some (.im (.list (r0.map .int))), none, none] → ∃ r : Nt.Row, r.length = w ∧ lcD splN [5] tYesD (Dv.e2 modD (eN g_law_drawn (eCons (eVar 3) (eCons (eVar 5) eNil))) (Dv.e2 idxD (eN mkT (eCons (eC (.int 2)) (eCons (eC (.int 3)) (eCons (eC (.int 9)) (eCons (eC (.int 1000)) eNil))))) (Dv.e2 modD (Dv.e2 fdivD (eVar 3) (eC (.int 3))) (eC (.int 4))))) ρ ((List.range w).map fun i => PyData.int ((i : Nat) : Int)) = some (r.map .int) := fun ρ h => by
    subst h
    obtain ⟨c, hc, hc0⟩ : ∃ c : Int, atI [PyData.int 2, .int 3, .int 9, .int 1000] ((x : Int) / 3 % 4) = some (.int c) ∧ 0 < c := by
      obtain ⟨k, hk, hk4⟩ : ∃ k : Nat, (x : Int) / 3 % 4 = (k : Int) ∧ k < 4 := ⟨((x : Int) / 3 % 4).toNat, by omega, by omega⟩
      rw [hk]
      match k, hk4 with
      | 0, _ => exact ⟨2, rfl, by decide⟩
      | 1, _ => exact ⟨3, rfl, by decide⟩
      | 2, _ => exact ⟨9, rfl, by decide⟩
      | 3, _ => exact ⟨1000, rfl, by decide⟩
    refine ⟨(List.range w).map fun i => drawnT (x : Int) ((i : Nat) : Int) % c, by rw [List.length_map, List.length_range], ?_⟩
    rw [lcD_mapN _ (fun i => .int (drawnT (x : Int) ((i : Nat) : Int) % c))]
    · rw [List.map_map]; rfl
    · intro i _
      have m4 : mkT [PyData.int 2, .int 3, .int 9, .int 1000] = some (.tuple [.int 2, .int 3, .int 9, .int 1000]) := mkT_ap (by simp)
      simp [sp_drawn, m4, fdivD_i f3, modD_i g4, hc, modD_i hc0]
  by_cases h1 : (x : Int) % 3 = 1
  · refine ⟨r0.map fun v => v % 2, ?_, by rw [List.length_map]; exact hl0⟩
    simp [b_law_row, e0, e1, modD_i g3, h1, e2, rowD]
  · by_cases h2 : (x : Int) % 3 = 2
    · obtain ⟨r, hl, e⟩ := e3 _ rfl
      refine ⟨r, ?_, hl⟩
      simp [b_law_row, e0, e1, modD_i g3, h1, h2, rowD]
      simp [e]
    · refine ⟨r0, ?_, hl0⟩
      simp [b_law_row, e0, e1, modD_i g3, h1, h2, rowD]
theorem rx (ns : List Int) (a : Int) (w x : Nat) (hw : w ≤ 8) (ha : 0 ≤ a ∧ a ≤ 100 := by decide) : ∃ r : Nt.Row, g_law_row [.list (ns.map PyData.int), .int a, .int (w : Int), .int (x : Int)] = some (rowD r) ∧ r.length = w := by
  obtain ⟨j, rfl⟩ : ∃ j : Nat, a = (j : Int) := ⟨a.toNat, by omega⟩
  exact sp_row ns j w x hw (by omega)

theorem sp_whole (i : Int) : g_law_whole [.int i] = some (.bool true) := by
  unfold g_law_whole
  rw [fnD_ap (by rfl)]
  simp [b_law_whole, kit_ii, kit_ib]

theorem whole2 (d : PyData) : g_law_whole [d] = some (.bool (wholeB d)) := whole1 d
theorem swap2 (d : PyData) (w : Nat) : g_law_is_swap [d, .int (w : Int)] = some (.bool (swapB w d)) := by
  unfold g_law_is_swap
  rw [fnD_ap (by rfl)]
  simp only [b_law_is_swap, List.map_cons, List.map_nil, List.replicate, List.cons_append, List.nil_append, sSeq_ap]
  cases hd : d with
  | tuple ds =>
    match ds with
    | [x, y] =>
      have i0 : atI [x, y] 0 = some x := rfl
      have i1 : atI [x, y] 1 = some y := rfl
      have l2 : neD (.int (([x, y].length : Nat) : Int)) (.int 2) = some (.bool false) := by rw [len_ne]; rfl
      simp only [sIf_ap, tOrD_ap, tNotD_ap, tB_ap, Dv.e1_ap, Dv.e2_ap, eVar_0, eVar_s, Option.bind_some, isi_t, tupB, asB_b, Option.map_some, Bool.not_true, Bool.false_eq_true, if_false, eN_ap, eCons_ap, eNil_ap, lenD_t, eC_ap, l2, idxD_t, i0, i1, whole2]
      cases hx : wholeB x
      · have : inB w x = false := by cases x <;> first | rfl | cases hx
        simp only [Bool.not_false, if_true, sRet_ap, eC_ap, Option.map_some, Option.bind_some, thenD_rt, outD_rt, swapB, this, Bool.false_and]
      · cases hy : wholeB y
        · have : inB w y = false := by cases y <;> first | rfl | cases hy
          simp only [Bool.not_true, Bool.not_false, Bool.false_eq_true, if_false, if_true, sRet_ap, eC_ap, Option.map_some, Option.bind_some, thenD_rt, outD_rt, swapB, this, Bool.false_and, Bool.and_false]
        · obtain ⟨a, rfl⟩ : ∃ a, x = .int a := by cases x <;> first | exact ⟨_, rfl⟩ | cases hx
          obtain ⟨b, rfl⟩ : ∃ a, y = .int a := by cases y <;> first | exact ⟨_, rfl⟩ | cases hy
          simp only [Bool.not_true, Bool.false_eq_true, if_false, Option.map_some, Option.bind_some, swapB, sNil_ap, thenD_nx, sRet_ap, eAnd_ap, eChain_ap, tB_ap, Dv.e2_ap, eVar_0, eVar_s, eC_ap, idxD_t, i0, i1, leD_i, ltD_i, asB_b, neD_i, inB, neB]
          cases decide ((0 : Int) ≤ a) <;> cases decide (a < (w : Int)) <;> cases decide ((0 : Int) ≤ b) <;> cases decide (b < (w : Int)) <;> rfl
    | [] =>
      have l2 : neD (.int ((([] : List PyData).length : Nat) : Int)) (.int 2) = some (.bool true) := by rw [len_ne]; rfl
      simp only [sIf_ap, tOrD_ap, tNotD_ap, tB_ap, Dv.e1_ap, Dv.e2_ap, eVar_0, eVar_s, Option.bind_some, isi_t, tupB, asB_b, Option.map_some, Bool.not_true, Bool.not_false, Bool.false_eq_true, if_false, if_true, eN_ap, eCons_ap, eNil_ap, lenD_t, eC_ap, l2, sRet_ap, thenD_rt, outD_rt, swapB]
    | [x] =>
      have l2 : neD (.int (([x].length : Nat) : Int)) (.int 2) = some (.bool true) := by rw [len_ne]; rfl
      simp only [sIf_ap, tOrD_ap, tNotD_ap, tB_ap, Dv.e1_ap, Dv.e2_ap, eVar_0, eVar_s, Option.bind_some, isi_t, tupB, asB_b, Option.map_some, Bool.not_true, Bool.not_false, Bool.false_eq_true, if_false, if_true, eN_ap, eCons_ap, eNil_ap, lenD_t, eC_ap, l2, sRet_ap, thenD_rt, outD_rt, swapB]
    | x :: y :: z :: ds =>
      have l2 : neD (.int (((x :: y :: z :: ds).length : Nat) : Int)) (.int 2) = some (.bool true) := by rw [len_ne, decide_eq_false (by simp)]; rfl
      simp only [sIf_ap, tOrD_ap, tNotD_ap, tB_ap, Dv.e1_ap, Dv.e2_ap, eVar_0, eVar_s, Option.bind_some, isi_t, tupB, asB_b, Option.map_some, Bool.not_true, Bool.not_false, Bool.false_eq_true, if_false, if_true, eN_ap, eCons_ap, eNil_ap, lenD_t, eC_ap, l2, sRet_ap, thenD_rt, outD_rt, swapB]
  | _ =>
    simp only [sIf_ap, tOrD_ap, tNotD_ap, tB_ap, Dv.e1_ap, eVar_0, Option.bind_some, isi_t, tupB, asB_b, Option.map_some, Bool.not_false, if_true, sRet_ap, eC_ap, thenD_rt, outD_rt, swapB]

theorem law_run_loop : ∀ (n : Nt.Net) (r : Nt.Row) (N R : PyData) (x y z : Option W), Nt.Ok r.length n → ∃ x' y' z', forD (gT 2 (gConsD (gN 3) (gConsD (gN 4) gNilD))) (sSeq (sAsg (eN minD2 (eCons (eIdxM 2 (eVar 3)) (eCons (eIdxM 2 (eVar 4)) eNil))) (gN 5))
  (sSeq (sAsg (eN maxD2 (eCons (eIdxM 2 (eVar 3)) (eCons (eIdxM 2 (eVar 4)) eNil))) (gSubM 2 (eVar 4)))
  (sAsg (eVar 5) (gSubM 2 (eVar 3))))) (n.map swD) [some (.im N), some (.im R), some (.ml (r.map .int)), x, y, z] = some (.nx [some (.im N), some (.im R), some (.ml ((Nt.run n r).map .int)), x', y', z'])
  | [], r, N, R, x, y, z, _ => ⟨x, y, z, rfl⟩
  | p :: n, r, N, R, x, y, z, ok => by
    obtain ⟨a, b⟩ := p
    obtain ⟨h1, h2, h3⟩ := ok.head
    simp only at h1 h2 h3
    obtain ⟨x', y', z', ih⟩ := law_run_loop n (Nt.sw (a, b) r) N R (some (.im (.int a))) (some (.im (.int b))) (some (.im (.int (min (r.getD a 0) (r.getD b 0))))) (by rw [Nt.sw_len]; exact ok.tail)
    refine ⟨x', y', z', ?_⟩
    rw [Nt.run_cons, ← ih]
    have e1 := at_row h1
    have e2 := at_row h2
    have e3 : (Nt.sw (a, b) r) = (r.set b (max (r.getD a 0) (r.getD b 0))).set a (min (r.getD a 0) (r.getD b 0)) := by
      unfold Nt.sw Nt.lo Nt.hi
      rw [List.set_comm _ _ h3]
    simp [swD, eIdxM_ap, e1, e2, minD2_i, maxD2_i, ixN_nat, h1, h2, e3]
theorem sp_law_run {n : Nt.Net} {r : Nt.Row} (ok : Nt.Ok r.length n) : g_law_run [netD n, rowD r] = some (rowD (Nt.run n r)) := by
  obtain ⟨x, y, z, h⟩ := law_run_loop n r (netD n) (rowD r) none none none ok
  unfold g_law_run
  rw [fnD_ap (by rfl)]
  simp [b_law_run, netD, rowD] at h ⊢
  simp [h]
theorem sp_law_run_l {n : Nt.Net} {r : Nt.Row} (ok : Nt.Ok r.length n) : g_law_run [.list (n.map swD), rowD r] = some (rowD (Nt.run n r)) := by
  obtain ⟨x, y, z, h⟩ := law_run_loop n r (.list (n.map swD)) (rowD r) none none none ok
  unfold g_law_run
  rw [fnD_ap (by rfl)]
  simp [b_law_run, rowD] at h ⊢
  simp [h]

theorem net_bad {x y : PyData} {w : Nat} (h : swapB w (.tuple [x, y]) = false) : g_is_net [.tuple [.tuple [x, y]], .int (w : Int)] = some (.bool false) := by
  rw [net1]
  simp [netB, h]
theorem sp_rswap_bad {CR a dx : Addr} {r : Nt.Row} {s g : Nt.Net} {x y : PyData} (h : swapB r.length (.tuple [x, y]) = false) : g_Runner_swap CR a dx (FsR r s g) [x, y] = some (.ex "NoSwap", FsR r s g) := by
  unfold g_Runner_swap
  rw [fnM_ap (by rfl)]
  have t2 : mkT [x, y] = some (.tuple [x, y]) := mkT_ap (by simp)
  have t1 : mkT [.tuple [x, y]] = some (.tuple [.tuple [x, y]]) := mkT_ap (by simp)
  have ln : lenD [rowD r] = some (.int (r.length : Int)) := by unfold rowD; rw [lenD_t, List.length_map]
  simp only [b_Runner_swap, List.map_cons, List.map_nil, List.replicate, List.nil_append, List.cons_append, List.append_nil, mSeq_ap, mIf_ap, tNotD_ap, tB_ap, eN_ap, eCons_ap, eNil_ap, eVar_s, eVar_0, Option.bind_some, Option.map_some, t2, t1, eAt_ap, fsOf_so, lk_first, ln, net_bad h, asB_b, Bool.not_false, if_true, mRaise_ap, thenM_ex, outM_ex, soFs_0]
theorem sp_back_no {CR a dx : Addr} {r : Nt.Row} {g : Nt.Net} : g_Runner_back CR a dx (FsR r [] g) [] = some (.ex "NoBack", FsR r [] g) := by
  unfold g_Runner_back
  rw [fnM_ap (by rfl)]
  have e0 : eqD (netD []) (netD []) = some (.bool true) := eqD_net []
  simp only [b_Runner_back, List.map_nil, List.replicate, List.nil_append, mSeq_ap, mIf_ap, tB_ap, Dv.e2_ap, eAt_ap, fsOf_so, Option.bind_some, lk_swaps, lk_gone, eN_ap, eNil_ap, mkT_nil, e0, asB_b, if_true, mRaise_ap, thenM_ex, outM_ex, soFs_0, Option.map_some]
theorem sp_forth_no {CR a dx : Addr} {r : Nt.Row} {s : Nt.Net} : g_Runner_forth CR a dx (FsR r s []) [] = some (.ex "NoBack", FsR r s []) := by
  unfold g_Runner_forth
  rw [fnM_ap (by rfl)]
  have e0 : eqD (netD []) (netD []) = some (.bool true) := eqD_net []
  simp only [b_Runner_forth, List.map_nil, List.replicate, List.nil_append, mSeq_ap, mIf_ap, tB_ap, Dv.e2_ap, eAt_ap, fsOf_so, Option.bind_some, lk_swaps, lk_gone, eN_ap, eNil_ap, mkT_nil, e0, asB_b, if_true, mRaise_ap, thenM_ex, outM_ex, soFs_0, Option.map_some]
theorem mRetX_eq {i : Nat} {CR : Addr} {m : Str} {gm : GM} {fs : En → Option (List PyData)} {ρ ρ' : En} {fl fl' : Fs} {ds : List PyData} {r : Res} (h1 : obOf i CR ρ = some fl) (h2 : fl.lookup m = none) (h3 : fs ρ = some ds) (h4 : allM gm fl ds = some (r, fl')) (h5 : setO i fl' ρ = some ρ') : mRetX i CR m gm fs ρ = some (resM ρ' r) := by
  unfold mRetX
  rw [h1, Option.bind_some, if_pos h2, h3, Option.bind_some, h4, Option.bind_some]
  show ((setO i fl' ρ).map fun ρ' => resM ρ' r) = _
  rw [h5]
  rfl
theorem eIsE_4 {a : Addr} {b : Bool} {cn : Str} {x0 x1 x2 x3 : Option W} : eIsE 4 a b [x0, x1, x2, x3, some (.xo a cn)] = some (.bool b) := if_pos rfl
def dueM (ok : Bool) (d : PyData) (s : Str) : PyData := if ok = true then d else .str s
theorem mkL_2s (a b : Str) : mkL [.str a, .str b] = some [.str a, .str b] := by
  unfold mkL
  exact if_pos (by show 2 ≤ sizeLine; rw [sizeLine_eq]; omega)
theorem deed_ok {CR a dx : Addr} {fl fl' : Fs} {x0 x y d : PyData} (h : (mSeq (mIf (tB (Dv.e2 eqD (eVar 1) (eC (.str "swap")))) (mRetX 0 CR "swap" (g_Runner_swap CR) (eCons (eVar 2) (eCons (eVar 3) eNil))) (mO sNil)) (mSeq (mIf (tB (Dv.e2 eqD (eVar 1) (eC (.str "back")))) (mRetX 0 CR "back" (g_Runner_back CR) eNil) (mO sNil)) (mRetX 0 CR "forth" (g_Runner_forth CR) eNil))) [some (.so CR a dx fl), some (.im x0), some (.im x), some (.im y), none] = some (.rt d [some (.so CR a dx fl'), some (.im x0), some (.im x), some (.im y), none])) : g_law_deed CR a dx fl [x0, x, y] = some (.ok d, fl') := by
  unfold g_law_deed
  rw [fnM_ap (by rfl)]
  unfold b_law_deed mTryA2 mTryA
  simp only [List.map_cons, List.map_nil, List.replicate, List.nil_append, List.cons_append]
  rw [h, Option.bind_some]
  simp only [tryAM, Option.bind_some, outM_rt, soFs_0, Option.map_some]
theorem deed_swap {CR a dx : Addr} {fl fl' : Fs} {x0 x y : PyData} (h : (mSeq (mIf (tB (Dv.e2 eqD (eVar 1) (eC (.str "swap")))) (mRetX 0 CR "swap" (g_Runner_swap CR) (eCons (eVar 2) (eCons (eVar 3) eNil))) (mO sNil)) (mSeq (mIf (tB (Dv.e2 eqD (eVar 1) (eC (.str "back")))) (mRetX 0 CR "back" (g_Runner_back CR) eNil) (mO sNil)) (mRetX 0 CR "forth" (g_Runner_forth CR) eNil))) [some (.so CR a dx fl), some (.im x0), some (.im x), some (.im y), none] = some (.ex "NoSwap" [some (.so CR a dx fl'), some (.im x0), some (.im x), some (.im y), none])) : g_law_deed CR a dx fl [x0, x, y] = some (.ok (.str "no swap"), fl') := by
  unfold g_law_deed
  rw [fnM_ap (by rfl)]
  unfold b_law_deed mTryA2 mTryA
  simp only [List.map_cons, List.map_nil, List.replicate, List.nil_append, List.cons_append]
  rw [h, Option.bind_some]
  have e1 : sub2 "NoSwap" true "NoBack" true "NoSwap" = some true := if_pos rfl
  have q1 : eqD (.bool true) (.bool false) = some (.bool false) := rfl
  have i1 : int1D [.bool false] = some (.int 0) := rfl
  have i2 : atI [PyData.str "no swap", .str "no back"] 0 = some (.str "no swap") := rfl
  simp only [tryAM, e1, Option.bind_some, if_true]
  rw [allAM_eq (o := .rt (.str "no swap") [some (.so CR a dx fl'), some (.im x0), some (.im x), some (.im y), none])]
  · simp only [Option.bind_some, outM_rt, soFs_0, Option.map_some]
  · intro a'
    simp only [if_true, List.set_cons_succ, List.set_cons_zero, mSeq_ap, mIf_ap, tB_ap, eIsE_4, Option.bind_some, asB_b, Bool.false_eq_true, if_false, mO_ap, sNil_ap, toM_nx, thenM_nx, Dv.e2_ap, q1, mRet_ap, eL_ap, eNL_ap, eCons_ap, eNil_ap, eC_ap, Option.map_some, mkL_2s, eN_ap, i1, idxD_l, i2, eraseM]
theorem deed_back {CR a dx : Addr} {fl fl' : Fs} {x0 x y : PyData} (h : (mSeq (mIf (tB (Dv.e2 eqD (eVar 1) (eC (.str "swap")))) (mRetX 0 CR "swap" (g_Runner_swap CR) (eCons (eVar 2) (eCons (eVar 3) eNil))) (mO sNil)) (mSeq (mIf (tB (Dv.e2 eqD (eVar 1) (eC (.str "back")))) (mRetX 0 CR "back" (g_Runner_back CR) eNil) (mO sNil)) (mRetX 0 CR "forth" (g_Runner_forth CR) eNil))) [some (.so CR a dx fl), some (.im x0), some (.im x), some (.im y), none] = some (.ex "NoBack" [some (.so CR a dx fl'), some (.im x0), some (.im x), some (.im y), none])) : g_law_deed CR a dx fl [x0, x, y] = some (.ok (.str "no back"), fl') := by
  unfold g_law_deed
  rw [fnM_ap (by rfl)]
  unfold b_law_deed mTryA2 mTryA
  simp only [List.map_cons, List.map_nil, List.replicate, List.nil_append, List.cons_append]
  rw [h, Option.bind_some]
  have ne : ¬ (("NoBack" : Str) = "NoSwap") := by decide +kernel
  have e1 : sub2 "NoSwap" true "NoBack" true "NoBack" = some true := by unfold sub2; rw [if_neg ne, if_pos rfl]
  have q1 : eqD (.bool false) (.bool true) = some (.bool false) := rfl
  have i1 : int1D [.bool true] = some (.int 1) := rfl
  have i2 : atI [PyData.str "no swap", .str "no back"] 1 = some (.str "no back") := rfl
  simp only [tryAM, e1, Option.bind_some, if_true]
  rw [allAM_eq (o := .rt (.str "no back") [some (.so CR a dx fl'), some (.im x0), some (.im x), some (.im y), none])]
  · simp only [Option.bind_some, outM_rt, soFs_0, Option.map_some]
  · intro a'
    simp only [if_neg ne, List.set_cons_succ, List.set_cons_zero, mSeq_ap, mIf_ap, tB_ap, eIsE_4, Option.bind_some, asB_b, Bool.false_eq_true, if_false, mO_ap, sNil_ap, toM_nx, thenM_nx, Dv.e2_ap, q1, mRet_ap, eL_ap, eNL_ap, eCons_ap, eNil_ap, eC_ap, Option.map_some, mkL_2s, eN_ap, i1, idxD_l, i2, eraseM]
theorem w_ss : eqD (.str "swap") (.str "swap") = some (.bool true) := by kernel_rfl
theorem w_bs : eqD (.str "back") (.str "swap") = some (.bool false) := by kernel_rfl
theorem w_bb : eqD (.str "back") (.str "back") = some (.bool true) := by kernel_rfl
theorem w_fs : eqD (.str "forth") (.str "swap") = some (.bool false) := by kernel_rfl
theorem w_fb : eqD (.str "forth") (.str "back") = some (.bool false) := by kernel_rfl
theorem al_deed_swap (CR : Addr) {r : Nt.Row} {s g : Nt.Net} {p : Nt.Sw} (ok : Nt.Ok r.length s) (hp : Nt.SwOk r.length p) (hl : s.length ≤ 5000) : allM (g_law_deed CR) (FsR r s g) [.str "swap", .int p.1, .int p.2] = some (.ok (.bool (decide (Nt.run (s ++ [p]) r ≠ Nt.run s r))), FsR r (s ++ [p]) []) := allM_eq fun a dx => deed_ok (by
  have hq : mRetX 0 CR "swap" (g_Runner_swap CR) (eCons (eVar 2) (eCons (eVar 3) eNil)) [some (.so CR a dx (FsR r s g)), some (.im (.str "swap")), some (.im (.int p.1)), some (.im (.int p.2)), none] = some (resM [some (.so CR a dx (FsR r (s ++ [p]) [])), some (.im (.str "swap")), some (.im (.int p.1)), some (.im (.int p.2)), none] _) :=
    mRetX_eq (fl := FsR r s g) obOf_so lk_2 (ds := [.int p.1, .int p.2]) rfl (al_swap CR ok hp hl) rfl
  simp only [mSeq_ap, mIf_ap, tB_ap, Dv.e2_ap, eVar_s, eVar_0, eC_ap, Option.bind_some, w_ss, asB_b, if_true, hq, resM, thenM_rt])
theorem al_deed_bad (CR : Addr) {r : Nt.Row} {s g : Nt.Net} {x y : PyData} (h : swapB r.length (.tuple [x, y]) = false) : allM (g_law_deed CR) (FsR r s g) [.str "swap", x, y] = some (.ok (.str "no swap"), FsR r s g) := allM_eq fun a dx => deed_swap (by
  have hq : mRetX 0 CR "swap" (g_Runner_swap CR) (eCons (eVar 2) (eCons (eVar 3) eNil)) [some (.so CR a dx (FsR r s g)), some (.im (.str "swap")), some (.im x), some (.im y), none] = some (resM [some (.so CR a dx (FsR r s g)), some (.im (.str "swap")), some (.im x), some (.im y), none] _) :=
    mRetX_eq (fl := FsR r s g) obOf_so lk_2 (ds := [x, y]) rfl (allM_eq fun _ _ => sp_rswap_bad h) rfl
  simp only [mSeq_ap, mIf_ap, tB_ap, Dv.e2_ap, eVar_s, eVar_0, eC_ap, Option.bind_some, w_ss, asB_b, if_true, hq, resM, thenM_ex])
theorem al_deed_back (CR : Addr) {r : Nt.Row} {s g : Nt.Net} {p : Nt.Sw} {x y : PyData} (hl : g.length ≤ 5000) : allM (g_law_deed CR) (FsR r (s ++ [p]) g) [.str "back", x, y] = some (.ok (swD p), FsR r s (g ++ [p])) := allM_eq fun a dx => deed_ok (by
  have hq : mRetX 0 CR "back" (g_Runner_back CR) eNil [some (.so CR a dx (FsR r (s ++ [p]) g)), some (.im (.str "back")), some (.im x), some (.im y), none] = some (resM [some (.so CR a dx (FsR r s (g ++ [p]))), some (.im (.str "back")), some (.im x), some (.im y), none] _) :=
    mRetX_eq (fl := FsR r (s ++ [p]) g) obOf_so lk_6 (ds := []) rfl (al_back CR hl) rfl
  simp only [mSeq_ap, mIf_ap, tB_ap, Dv.e2_ap, eVar_s, eVar_0, eC_ap, Option.bind_some, w_bs, w_bb, asB_b, Bool.false_eq_true, if_false, mO_ap, sNil_ap, toM_nx, thenM_nx, if_true, hq, resM, thenM_rt])
theorem al_deed_noback (CR : Addr) {r : Nt.Row} {g : Nt.Net} {x y : PyData} : allM (g_law_deed CR) (FsR r [] g) [.str "back", x, y] = some (.ok (.str "no back"), FsR r [] g) := allM_eq fun a dx => deed_back (by
  have hq : mRetX 0 CR "back" (g_Runner_back CR) eNil [some (.so CR a dx (FsR r [] g)), some (.im (.str "back")), some (.im x), some (.im y), none] = some (resM [some (.so CR a dx (FsR r [] g)), some (.im (.str "back")), some (.im x), some (.im y), none] _) :=
    mRetX_eq (fl := FsR r [] g) obOf_so lk_6 (ds := []) rfl (allM_eq fun _ _ => sp_back_no) rfl
  simp only [mSeq_ap, mIf_ap, tB_ap, Dv.e2_ap, eVar_s, eVar_0, eC_ap, Option.bind_some, w_bs, w_bb, asB_b, Bool.false_eq_true, if_false, mO_ap, sNil_ap, toM_nx, thenM_nx, if_true, hq, resM, thenM_ex])
theorem al_deed_forth (CR : Addr) {r : Nt.Row} {s g : Nt.Net} {p : Nt.Sw} {x y : PyData} (hl : s.length ≤ 5000) : allM (g_law_deed CR) (FsR r s (g ++ [p])) [.str "forth", x, y] = some (.ok (swD p), FsR r (s ++ [p]) g) := allM_eq fun a dx => deed_ok (by
  have hq : mRetX 0 CR "forth" (g_Runner_forth CR) eNil [some (.so CR a dx (FsR r s (g ++ [p]))), some (.im (.str "forth")), some (.im x), some (.im y), none] = some (resM [some (.so CR a dx (FsR r (s ++ [p]) g)), some (.im (.str "forth")), some (.im x), some (.im y), none] _) :=
    mRetX_eq (fl := FsR r s (g ++ [p])) obOf_so lk_7 (ds := []) rfl (al_forth CR hl) rfl
  simp only [mSeq_ap, mIf_ap, tB_ap, Dv.e2_ap, eVar_s, eVar_0, eC_ap, Option.bind_some, w_fs, w_fb, asB_b, Bool.false_eq_true, if_false, mO_ap, sNil_ap, toM_nx, thenM_nx, hq, resM])
theorem al_deed_noforth (CR : Addr) {r : Nt.Row} {s : Nt.Net} {x y : PyData} : allM (g_law_deed CR) (FsR r s []) [.str "forth", x, y] = some (.ok (.str "no back"), FsR r s []) := allM_eq fun a dx => deed_back (by
  have hq : mRetX 0 CR "forth" (g_Runner_forth CR) eNil [some (.so CR a dx (FsR r s [])), some (.im (.str "forth")), some (.im x), some (.im y), none] = some (resM [some (.so CR a dx (FsR r s [])), some (.im (.str "forth")), some (.im x), some (.im y), none] _) :=
    mRetX_eq (fl := FsR r s []) obOf_so lk_7 (ds := []) rfl (allM_eq fun _ _ => sp_forth_no) rfl
  simp only [mSeq_ap, mIf_ap, tB_ap, Dv.e2_ap, eVar_s, eVar_0, eC_ap, Option.bind_some, w_fs, w_fb, asB_b, Bool.false_eq_true, if_false, mO_ap, sNil_ap, toM_nx, thenM_nx, hq, resM])

theorem rows_at {n : Nt.Net} {r : Nt.Row} {k : Nat} (h : k < n.length + 1) : atI ((List.range (n.length + 1)).map fun k => rowD (Nt.run (n.take k) r)) (k : Int) = some (rowD (Nt.run (n.take k) r)) := by
  refine atI_i rfl ?_
  rw [List.getElem?_map, List.getElem?_range h]
  rfl
theorem neD_bb (b : Bool) : neD (.bool b) (.bool b) = some (.bool false) := by cases b <;> rfl
theorem eqD_bb (b : Bool) : eqD (.bool b) (.bool b) = some (.bool true) := by cases b <;> rfl
theorem sp_as {CR : Addr} {r : Nt.Row} {n g : Nt.Net} (ok : Nt.Ok r.length n) (hl : n.length ≤ 5000) : g_law_as CR (FsR r n g) [rowD r, .list (n.map swD), .list (g.map swD)] = some (.bool true) := by
  have z1 : (sAsg (eN g_law_run (eCons (eVar 2) (eCons (eVar 1) eNil))) (gN 4)) [some (.fo CR (FsR r n g)), some (.im (rowD r)), some (.im (.list (n.map swD))), some (.im (.list (g.map swD))), none, none, none] = some (.nx [some (.fo CR (FsR r n g)), some (.im (rowD r)), some (.im (.list (n.map swD))), some (.im (.list (g.map swD))), some (.im (rowD (Nt.run n r))), none, none]) := by
    simp only [sAsg_ap, eN_ap, eCons_ap, eNil_ap, eVar_s, eVar_0, Option.bind_some, Option.map_some, sp_law_run_l ok, gN_ap, List.set_cons_succ, List.set_cons_zero]
  have z2 : (sIf (tOrD (tB (Dv.e2 neD (eMt 0 CR "row_now" (g_Runner_row_now CR)) (eVar 4))) (tOrD (tB (Dv.e2 neD (eMt 0 CR "net" (g_Runner_net CR)) (eN tupD (eCons (eVar 2) eNil)))) (tB (Dv.e2 neD (eMt 0 CR "tally" (g_Runner_tally CR)) (eN mkT (eCons (eN lenD (eCons (eVar 2) eNil)) (eCons (eN lenD (eCons (eVar 3) eNil)) eNil))))))) (sRet (eC (.bool false))) sNil) [some (.fo CR (FsR r n g)), some (.im (rowD r)), some (.im (.list (n.map swD))), some (.im (.list (g.map swD))), some (.im (rowD (Nt.run n r))), none, none] = some (.nx [some (.fo CR (FsR r n g)), some (.im (rowD r)), some (.im (.list (n.map swD))), some (.im (.list (g.map swD))), some (.im (rowD (Nt.run n r))), none, none]) := by
    have rr : neD (rowD (Nt.run n r)) (rowD (Nt.run n r)) = some (.bool false) := neD_row _
    have nn : neD (netD n) (.tuple (n.map swD)) = some (.bool false) := neD_net n
    have t2 : mkT [.int ((n.map swD).length : Int), .int ((g.map swD).length : Int)] = some (tallyD n g) := by
      rw [mkT_ap (by simp), List.length_map, List.length_map]
      rfl
    have tt : neD (tallyD n g) (tallyD n g) = some (.bool false) := by
      have hp : pl 1 (tallyD n g) := pl_two (n := 0) pl_int pl_int
      rw [neD_pl (p := True) hp hp (by simp)]
      rfl
    simp only [sIf_ap, tOrD_ap, tB_ap, Dv.e2_ap, eMt_ap, foOf_fo, Option.bind_some, lk_1, lk_3, lk_8, if_true, sp_row_now ok, sp_netm, sp_tally, eVar_s, eVar_0, rr, asB_b, Bool.false_eq_true, if_false, eN_ap, eCons_ap, eNil_ap, Option.map_some, tupD_l, nn, lenD_l, t2, tt, sNil_ap]
  have rg : rg1 [.int (((n.map swD).length : Int) + 1)] = some ((List.range (n.length + 1)).map fun k => PyData.int ((k : Nat) : Int)) := by
    rw [List.length_map, rg1_i (by omega)]
    rw [show ((n.length : Int) + 1).toNat = n.length + 1 by omega, rng0]
  have rg2 : rg1 [.int ((n.map swD).length : Int)] = some ((List.range n.length).map fun k => PyData.int ((k : Nat) : Int)) := by
    rw [List.length_map, rg1_i (by omega), Int.toNat_natCast, rng0]
  have z3 : (sAsg (eL (eLc (eNL rg1 (eCons (Dv.e2 addD (eN lenD (eCons (eVar 2) eNil)) (eC (.int 1))) eNil)) splN [6] [6] tYesD (eN g_law_run (eCons (eSl (eVar 2) oNo (oSo (eVar 6))) (eCons (eVar 1) eNil))))) (gN 5)) [some (.fo CR (FsR r n g)), some (.im (rowD r)), some (.im (.list (n.map swD))), some (.im (.list (g.map swD))), some (.im (rowD (Nt.run n r))), none, none] = some (.nx [some (.fo CR (FsR r n g)), some (.im (rowD r)), some (.im (.list (n.map swD))), some (.im (.list (g.map swD))), some (.im (rowD (Nt.run n r))), some (.im (.list ((List.range (n.length + 1)).map fun k => rowD (Nt.run (n.take k) r)))), none]) := by
    have lc := lcD_mapN (i := 6) (fe := (eN g_law_run (eCons (eSl (eVar 2) oNo (oSo (eVar 6))) (eCons (eVar 1) eNil)))) (ρ := [some (.fo CR (FsR r n g)), some (.im (rowD r)), some (.im (.list (n.map swD))), some (.im (.list (g.map swD))), some (.im (rowD (Nt.run n r))), none, none]) (fun k : Nat => PyData.int (k : Int)) (fun k => rowD (Nt.run (n.take k) r)) (List.range (n.length + 1)) (fun k _ => by
      have q := sp_law_run_l (ok.take k)
      simp only [List.set_cons_succ, List.set_cons_zero, eN_ap, eCons_ap, eNil_ap, eSl_ap, eVar_s, eVar_0, oNo_ap, oSo_ap, asI_i, Option.bind_some, Option.map_some, slD_l, cut_to, ← List.map_take, q])
    simp only [sAsg_ap, eL_ap, eLc_ap, eNL_ap, eCons_ap, eNil_ap, Dv.e2_ap, eN_ap, eVar_s, eVar_0, eC_ap, Option.bind_some, Option.map_some, lenD_l, addD_i, rg, wipeE_c, wipeE_0, List.set_cons_succ, List.set_cons_zero, lc, gN_ap]
  have z4 : (sIf (tB (Dv.e2 neD (eL (eNL listD (eCons (eMt 0 CR "idle" (g_Runner_idle CR)) eNil))) (eL (eLc (eNL rg1 (eCons (eN lenD (eCons (eVar 2) eNil)) eNil)) splN [6] [6] (tB (Dv.e2 eqD (Dv.e2 idxD (eVar 5) (eVar 6)) (Dv.e2 idxD (eVar 5) (Dv.e2 addD (eVar 6) (eC (.int 1)))))) (eVar 6))))) (sRet (eC (.bool false))) sNil) [some (.fo CR (FsR r n g)), some (.im (rowD r)), some (.im (.list (n.map swD))), some (.im (.list (g.map swD))), some (.im (rowD (Nt.run n r))), some (.im (.list ((List.range (n.length + 1)).map fun k => rowD (Nt.run (n.take k) r)))), none] = some (.nx [some (.fo CR (FsR r n g)), some (.im (rowD r)), some (.im (.list (n.map swD))), some (.im (.list (g.map swD))), some (.im (rowD (Nt.run n r))), some (.im (.list ((List.range (n.length + 1)).map fun k => rowD (Nt.run (n.take k) r)))), none]) := by
    have lc := lcD_filN (i := 6) (ft := (tB (Dv.e2 eqD (Dv.e2 idxD (eVar 5) (eVar 6)) (Dv.e2 idxD (eVar 5) (Dv.e2 addD (eVar 6) (eC (.int 1))))))) (fe := eVar 6) (ρ := [some (.fo CR (FsR r n g)), some (.im (rowD r)), some (.im (.list (n.map swD))), some (.im (.list (g.map swD))), some (.im (rowD (Nt.run n r))), some (.im (.list ((List.range (n.length + 1)).map fun k => rowD (Nt.run (n.take k) r)))), none]) (fun k : Nat => PyData.int (k : Int)) (idleB n r) (fun k => PyData.int (k : Int)) (List.range n.length) (fun k hk => by
      have hk' := List.mem_range.mp hk
      have a1 := rows_at (n := n) (r := r) (k := k) (by omega)
      have a2 : atI ((List.range (n.length + 1)).map fun k => rowD (Nt.run (n.take k) r)) ((k : Int) + 1) = some (rowD (Nt.run (n.take (k + 1)) r)) := rows_at (n := n) (r := r) (k := k + 1) (by omega)
      refine ⟨?_, fun _ => rfl⟩
      simp only [List.set_cons_succ, List.set_cons_zero, tB_ap, Dv.e2_ap, eVar_s, eVar_0, eC_ap, Option.bind_some, addD_i, idxD_l, a1, a2, eqD_rows, asB_b, idleB])
    have ld : listD [idleD n r] = some ((idleT n r).map fun k => PyData.int ((k : Nat) : Int)) := rfl
    have nn : neD (.list ((idleT n r).map fun k => PyData.int ((k : Nat) : Int))) (.list (((List.range n.length).filter (idleB n r)).map fun k => PyData.int ((k : Nat) : Int))) = some (.bool false) := by
      have hp : pl 1 (.list ((idleT n r).map fun k => PyData.int ((k : Nat) : Int))) := pl_list fun d hd => by
        obtain ⟨p, _, rfl⟩ := List.mem_map.mp hd
        exact pl_int
      have := neD_pl (p := True) hp hp (by simp)
      exact this
    simp only [sIf_ap, tB_ap, Dv.e2_ap, eL_ap, eNL_ap, eCons_ap, eNil_ap, eMt_ap, foOf_fo, Option.bind_some, lk_4, if_true, sp_idle ok hl, Option.map_some, ld, eLc_ap, eN_ap, eVar_s, eVar_0, lenD_l, rg2, wipeE_c, wipeE_0, List.set_cons_succ, List.set_cons_zero, lc, nn, asB_b, Bool.false_eq_true, if_false, sNil_ap]
  have z5 : (sRet (Dv.e2 eqD (eMt 0 CR "is_done" (g_Runner_is_done CR)) (Dv.e2 eqD (eL (eNL listD (eCons (eVar 4) eNil))) (eL (eNL sortedD (eCons (eVar 4) eNil)))))) [some (.fo CR (FsR r n g)), some (.im (rowD r)), some (.im (.list (n.map swD))), some (.im (.list (g.map swD))), some (.im (rowD (Nt.run n r))), some (.im (.list ((List.range (n.length + 1)).map fun k => rowD (Nt.run (n.take k) r)))), none] = some (.rt (.bool true)) := by
    have s1 : sortedD [rowD (Nt.run n r)] = some ((srt (Nt.run n r)).map PyData.int) := sortedD_t _
    have l1 : listD [rowD (Nt.run n r)] = some ((Nt.run n r).map PyData.int) := rfl
    have e1 : eqD (.bool (sortedB (Nt.run n r))) (.bool (decide (Nt.run n r = srt (Nt.run n r)))) = some (.bool true) := eqD_bb _
    simp only [sRet_ap, Dv.e2_ap, eMt_ap, foOf_fo, Option.bind_some, lk_5, if_true, sp_is_done ok, eL_ap, eNL_ap, eCons_ap, eNil_ap, eVar_s, eVar_0, Option.map_some, l1, s1, eqD_il, e1]
  unfold g_law_as
  rw [fnO_ap (by rfl)]
  show outD (b_law_as CR [some (.fo CR (FsR r n g)), some (.im (rowD r)), some (.im (.list (n.map swD))), some (.im (.list (g.map swD))), none, none, none]) = _
  unfold b_law_as
  rw [sSeq_ap, z1, Option.bind_some, thenD_nx, sSeq_ap, z2, Option.bind_some, thenD_nx, sSeq_ap, z3, Option.bind_some, thenD_nx, sSeq_ap, z4, Option.bind_some, thenD_nx, z5]
  rfl

theorem cut_m1 {α : Type} (xs : List α) (x : α) : Dv.cutD (xs ++ [x]) (some (-1)) none = [x] := by
  unfold Dv.cutD
  have e1 : HT.sIx (xs ++ [x]).length 0 (some (-1)) = xs.length := by
    have h := HT.clip_eq (-1) (xs ++ [x]).length 0
    rw [List.length_append, List.length_singleton] at h ⊢
    rw [if_pos (by omega)] at h
    omega
  rw [e1, HT.sIx_none]
  simp
theorem cut_m0 {α : Type} : Dv.cutD ([] : List α) (some (-1)) none = [] := by
  unfold Dv.cutD
  simp
theorem snoc (n : Nt.Net) : n = [] ∨ ∃ m p, n = m ++ [p] := by
  rcases List.eq_nil_or_concat n with h | ⟨m, p, h⟩
  · exact .inl h
  · exact .inr ⟨m, p, by simpa using h⟩
theorem neD_sw (p : Nt.Sw) : neD (swD p) (swD p) = some (.bool false) := by
  rw [neD_pl (p := True) (pl_sw p) (pl_sw p) (by simp)]
  rfl
theorem neD_nb : neD (.str "no back") (.str "no back") = some (.bool false) := by kernel_rfl
theorem neD_ns : neD (.str "no swap") (.str "no swap") = some (.bool false) := by kernel_rfl
theorem mkL_1 (d : PyData) : mkL [d] = some [d] := by
  unfold mkL
  exact if_pos (by show 1 ≤ sizeLine; rw [sizeLine_eq]; omega)
theorem in_nat {w : Nat} {x : PyData} (h : inB w x = true) : ∃ a : Nat, x = .int (a : Int) ∧ a < w := by
  cases x with
  | int i =>
    have h : (decide (0 ≤ i) && decide (i < (w : Int))) = true := h
    rw [Bool.and_eq_true, decide_eq_true_eq, decide_eq_true_eq] at h
    exact ⟨i.toNat, by rw [Int.toNat_of_nonneg h.1], by omega⟩
  | _ => cases h
theorem swap_of {w : Nat} {x y : PyData} (h : swapB w (.tuple [x, y]) = true) : ∃ p : Nt.Sw, x = .int (p.1 : Int) ∧ y = .int (p.2 : Int) ∧ Nt.SwOk w p := by
  have h : (inB w x && inB w y && neB x y) = true := h
  rw [Bool.and_eq_true, Bool.and_eq_true] at h
  obtain ⟨⟨h1, h2⟩, h3⟩ := h
  obtain ⟨a, rfl, ha⟩ := in_nat h1
  obtain ⟨b, rfl, hb⟩ := in_nat h2
  have h3 : (!decide ((a : Int) = (b : Int))) = true := h3
  refine ⟨(a, b), rfl, rfl, ha, hb, fun e => ?_⟩
  have e : a = b := e
  subst e
  simp at h3
theorem at_mod {L : List PyData} (h : 0 < L.length) (q : Int) : ∃ x, atI L (q % (L.length : Int)) = some x := by
  have h1 := Int.emod_nonneg q (show (L.length : Int) ≠ 0 by omega)
  have h2 := Int.emod_lt_of_pos q (show (0 : Int) < (L.length : Int) by omega)
  refine ⟨L[(q % (L.length : Int)).toNat]'(by omega), atI_i (n := (q % (L.length : Int)).toNat) (by omega) (List.getElem?_eq_getElem _)⟩
theorem qFn_eq {i : Nat} {CR : Addr} {gm : GM} {fs : En → Option (List PyData)} {ρ ρ' : En} {fl fl' : Fs} {ds : List PyData} {d : PyData} (h1 : obOf i CR ρ = some fl) (h3 : fs ρ = some ds) (h4 : allM gm fl ds = some (.ok d, fl')) (h5 : setO i fl' ρ = some ρ') : qFn i CR gm fs ρ = some (d, ρ') := by
  unfold qFn
  rw [h1, Option.bind_some, h3, Option.bind_some, h4, Option.bind_some]
  show ((some d).bind fun d => (setO i fl' ρ).map fun ρ' => (d, ρ')) = _
  rw [Option.bind_some, h5]
  rfl
/-- a deed that takes back -/
theorem t_back {CR : Addr} {r : Nt.Row} {n g : Nt.Net} {a0 a1 a2 b7 b8 b9 c0 c1 c2 c3 : Option W} (okn : Nt.Ok r.length n) (okg : Nt.Ok r.length g) (hl : n.length + g.length ≤ 1000) : ∃ n' g', Nt.Ok r.length n' ∧ Nt.Ok r.length g' ∧ n'.length + g'.length ≤ n.length + g.length + 1 ∧
    (sSeq (sIfM (mCmp neD (qFn 4 CR (g_law_deed CR) (eCons (eC (.str "back")) (eCons (eC (.int 0)) (eCons (eC (.int 0)) eNil)))) (Dv.e2 idxD (Dv.e2 addD (eSl (eVar 5) (oSo (Dv.e1 negD (eC (.int 1)))) oNo) (eL (eNL mkL (eCons (eC (.str "no back")) eNil)))) (eC (.int 0)))) (sRet (eC (.bool false))) sNil) (sPar 5 6 (eSl (eVar 5) oNo (oSo (Dv.e1 negD (eC (.int 1))))) (Dv.e2 addD (eVar 6) (eSl (eVar 5) (oSo (Dv.e1 negD (eC (.int 1)))) oNo)))) [a0, a1, a2, some (.im (rowD r)), some (.ob CR (FsR r n g)), some (.im (.list (n.map swD))), some (.im (.list (g.map swD))), b7, b8, b9, c0, c1, c2, c3] = some (.nx [a0, a1, a2, some (.im (rowD r)), some (.ob CR (FsR r n' g')), some (.im (.list (n'.map swD))), some (.im (.list (g'.map swD))), b7, b8, b9, c0, c1, c2, c3]) := by
  have m1 : -(1 : Int) = -1 := rfl
  rcases snoc n with rfl | ⟨m, p, rfl⟩
  · refine ⟨[], g, okn, okg, by omega, ?_⟩
    have hq : qFn 4 CR (g_law_deed CR) (eCons (eC (.str "back")) (eCons (eC (.int 0)) (eCons (eC (.int 0)) eNil))) [a0, a1, a2, some (.im (rowD r)), some (.ob CR (FsR r [] g)), some (.im (.list (([] : Nt.Net).map swD))), some (.im (.list (g.map swD))), b7, b8, b9, c0, c1, c2, c3] = some (.str "no back", [a0, a1, a2, some (.im (rowD r)), some (.ob CR (FsR r [] g)), some (.im (.list (([] : Nt.Net).map swD))), some (.im (.list (g.map swD))), b7, b8, b9, c0, c1, c2, c3]) :=
      qFn_eq (fl := FsR r [] g) (by simp only [obOf_s, obOf_ob]) (ds := [.str "back", .int 0, .int 0]) rfl (al_deed_noback CR) rfl
    have i0 : atI ([PyData.str "no back"]) 0 = some (.str "no back") := rfl
    have ad : addD (.list []) (.list [.str "no back"]) = some (.list [.str "no back"]) := by rw [addD_l (by simp)]; rfl
    have ag : addD (.list (g.map swD)) (.list []) = some (.list (g.map swD)) := by rw [addD_l (by rw [List.length_map]; simp; omega), List.append_nil]
    have dl : Dv.cutD ([] : List PyData) none (some (-1)) = [] := cut_last []
    rw [sSeq_ap, sIfM_ap, mCmp_ap, q2_ap, hq]
    simp only [Option.bind_some, Dv.e2_ap, eSl_ap, eVar_s, eVar_0, Dv.e1_ap, eC_ap, negD_i, m1, oSo_ap, oNo_ap, asI_i, List.map_nil, slD_l, cut_m0, eL_ap, eNL_ap, eCons_ap, eNil_ap, Option.map_some, mkL_1, ad, idxD_l, i0, neD_nb, asB_b, Bool.false_eq_true, if_false, sNil_ap, thenD_nx, sPar, dl, ag, List.set_cons_succ, List.set_cons_zero]
  · rw [List.length_append, List.length_singleton] at hl
    refine ⟨m, g ++ [p], fun z hz => okn z (List.mem_append_left _ hz), okg.app fun z hz => okn z (List.mem_append_right _ hz), by rw [List.length_append, List.length_append, List.length_singleton]; omega, ?_⟩
    have hq : qFn 4 CR (g_law_deed CR) (eCons (eC (.str "back")) (eCons (eC (.int 0)) (eCons (eC (.int 0)) eNil))) [a0, a1, a2, some (.im (rowD r)), some (.ob CR (FsR r (m ++ [p]) g)), some (.im (.list ((m ++ [p]).map swD))), some (.im (.list (g.map swD))), b7, b8, b9, c0, c1, c2, c3] = some (swD p, [a0, a1, a2, some (.im (rowD r)), some (.ob CR (FsR r m (g ++ [p]))), some (.im (.list ((m ++ [p]).map swD))), some (.im (.list (g.map swD))), b7, b8, b9, c0, c1, c2, c3]) :=
      qFn_eq (fl := FsR r (m ++ [p]) g) (by simp only [obOf_s, obOf_ob]) (ds := [.str "back", .int 0, .int 0]) rfl (al_deed_back CR (by omega)) rfl
    have i0 : atI ([swD p] ++ [PyData.str "no back"]) 0 = some (swD p) := rfl
    have ad : addD (.list [swD p]) (.list [.str "no back"]) = some (.list ([swD p] ++ [.str "no back"])) := addD_l (by simp)
    have ag : addD (.list (g.map swD)) (.list [swD p]) = some (.list ((g ++ [p]).map swD)) := by rw [addD_l (by rw [List.length_map]; simp; omega), List.map_append]; rfl
    have mp : (m ++ [p]).map swD = m.map swD ++ [swD p] := by rw [List.map_append]; rfl
    have dl : Dv.cutD (m.map swD ++ [swD p]) none (some (-1)) = m.map swD := by rw [cut_last]; simp
    rw [sSeq_ap, sIfM_ap, mCmp_ap, q2_ap, hq]
    simp only [Option.bind_some, Dv.e2_ap, eSl_ap, eVar_s, eVar_0, Dv.e1_ap, eC_ap, negD_i, m1, oSo_ap, oNo_ap, asI_i, mp, slD_l, cut_m1, eL_ap, eNL_ap, eCons_ap, eNil_ap, Option.map_some, mkL_1, ad, idxD_l, i0, neD_sw, asB_b, Bool.false_eq_true, if_false, sNil_ap, thenD_nx, sPar, dl, ag, List.set_cons_succ, List.set_cons_zero]
theorem t_forth {CR : Addr} {r : Nt.Row} {n g : Nt.Net} {a0 a1 a2 b7 b8 b9 c0 c1 c2 c3 : Option W} (okn : Nt.Ok r.length n) (okg : Nt.Ok r.length g) (hl : n.length + g.length ≤ 1000) : ∃ n' g', Nt.Ok r.length n' ∧ Nt.Ok r.length g' ∧ n'.length + g'.length ≤ n.length + g.length + 1 ∧
    (sSeq (sIfM (mCmp neD (qFn 4 CR (g_law_deed CR) (eCons (eC (.str "forth")) (eCons (eC (.int 0)) (eCons (eC (.int 0)) eNil)))) (Dv.e2 idxD (Dv.e2 addD (eSl (eVar 6) (oSo (Dv.e1 negD (eC (.int 1)))) oNo) (eL (eNL mkL (eCons (eC (.str "no back")) eNil)))) (eC (.int 0)))) (sRet (eC (.bool false))) sNil) (sPar 5 6 (Dv.e2 addD (eVar 5) (eSl (eVar 6) (oSo (Dv.e1 negD (eC (.int 1)))) oNo)) (eSl (eVar 6) oNo (oSo (Dv.e1 negD (eC (.int 1))))))) [a0, a1, a2, some (.im (rowD r)), some (.ob CR (FsR r n g)), some (.im (.list (n.map swD))), some (.im (.list (g.map swD))), b7, b8, b9, c0, c1, c2, c3] = some (.nx [a0, a1, a2, some (.im (rowD r)), some (.ob CR (FsR r n' g')), some (.im (.list (n'.map swD))), some (.im (.list (g'.map swD))), b7, b8, b9, c0, c1, c2, c3]) := by
  have m1 : -(1 : Int) = -1 := rfl
  rcases snoc g with rfl | ⟨m, p, rfl⟩
  · refine ⟨n, [], okn, okg, by omega, ?_⟩
    have hq : qFn 4 CR (g_law_deed CR) (eCons (eC (.str "forth")) (eCons (eC (.int 0)) (eCons (eC (.int 0)) eNil))) [a0, a1, a2, some (.im (rowD r)), some (.ob CR (FsR r n [])), some (.im (.list (n.map swD))), some (.im (.list (([] : Nt.Net).map swD))), b7, b8, b9, c0, c1, c2, c3] = some (.str "no back", [a0, a1, a2, some (.im (rowD r)), some (.ob CR (FsR r n [])), some (.im (.list (n.map swD))), some (.im (.list (([] : Nt.Net).map swD))), b7, b8, b9, c0, c1, c2, c3]) :=
      qFn_eq (fl := FsR r n []) (by simp only [obOf_s, obOf_ob]) (ds := [.str "forth", .int 0, .int 0]) rfl (al_deed_noforth CR) rfl
    have i0 : atI ([PyData.str "no back"]) 0 = some (.str "no back") := rfl
    have ad : addD (.list []) (.list [.str "no back"]) = some (.list [.str "no back"]) := by rw [addD_l (by simp)]; rfl
    have ag : addD (.list (n.map swD)) (.list []) = some (.list (n.map swD)) := by rw [addD_l (by rw [List.length_map]; simp; omega), List.append_nil]
    have dl : Dv.cutD ([] : List PyData) none (some (-1)) = [] := cut_last []
    rw [sSeq_ap, sIfM_ap, mCmp_ap, q2_ap, hq]
    simp only [Option.bind_some, Dv.e2_ap, eSl_ap, eVar_s, eVar_0, Dv.e1_ap, eC_ap, negD_i, m1, oSo_ap, oNo_ap, asI_i, List.map_nil, slD_l, cut_m0, eL_ap, eNL_ap, eCons_ap, eNil_ap, Option.map_some, mkL_1, ad, idxD_l, i0, neD_nb, asB_b, Bool.false_eq_true, if_false, sNil_ap, thenD_nx, sPar, dl, ag, List.set_cons_succ, List.set_cons_zero]
  · rw [List.length_append, List.length_singleton] at hl
    refine ⟨n ++ [p], m, okn.app fun z hz => okg z (List.mem_append_right _ hz), fun z hz => okg z (List.mem_append_left _ hz), by rw [List.length_append, List.length_append, List.length_singleton]; omega, ?_⟩
    have hq : qFn 4 CR (g_law_deed CR) (eCons (eC (.str "forth")) (eCons (eC (.int 0)) (eCons (eC (.int 0)) eNil))) [a0, a1, a2, some (.im (rowD r)), some (.ob CR (FsR r n (m ++ [p]))), some (.im (.list (n.map swD))), some (.im (.list ((m ++ [p]).map swD))), b7, b8, b9, c0, c1, c2, c3] = some (swD p, [a0, a1, a2, some (.im (rowD r)), some (.ob CR (FsR r (n ++ [p]) m)), some (.im (.list (n.map swD))), some (.im (.list ((m ++ [p]).map swD))), b7, b8, b9, c0, c1, c2, c3]) :=
      qFn_eq (fl := FsR r n (m ++ [p])) (by simp only [obOf_s, obOf_ob]) (ds := [.str "forth", .int 0, .int 0]) rfl (al_deed_forth CR (by omega)) rfl
    have i0 : atI ([swD p] ++ [PyData.str "no back"]) 0 = some (swD p) := rfl
    have ad : addD (.list [swD p]) (.list [.str "no back"]) = some (.list ([swD p] ++ [.str "no back"])) := addD_l (by simp)
    have ag : addD (.list (n.map swD)) (.list [swD p]) = some (.list ((n ++ [p]).map swD)) := by rw [addD_l (by rw [List.length_map]; simp; omega), List.map_append]; rfl
    have mp : (m ++ [p]).map swD = m.map swD ++ [swD p] := by rw [List.map_append]; rfl
    have dl : Dv.cutD (m.map swD ++ [swD p]) none (some (-1)) = m.map swD := by rw [cut_last]; simp
    rw [sSeq_ap, sIfM_ap, mCmp_ap, q2_ap, hq]
    simp only [Option.bind_some, Dv.e2_ap, eSl_ap, eVar_s, eVar_0, Dv.e1_ap, eC_ap, negD_i, m1, oSo_ap, oNo_ap, asI_i, mp, slD_l, cut_m1, eL_ap, eNL_ap, eCons_ap, eNil_ap, Option.map_some, mkL_1, ad, idxD_l, i0, neD_sw, asB_b, Bool.false_eq_true, if_false, sNil_ap, thenD_nx, sPar, dl, ag, List.set_cons_succ, List.set_cons_zero]
theorem mkL_ap {ds : List PyData} (h : ds.length ≤ 1000) : mkL ds = some ds := by
  unfold mkL
  exact if_pos (by rw [sizeLine_eq]; omega)
def someL (w : Nat) : List PyData := (List.replicate 2 (rng 0 w)).flatten ++ [.int (w : Int), .int (-1), .none, .str "0", .bool true]
theorem someL_pos (w : Nat) : 0 < (someL w).length := by
  unfold someL
  rw [List.length_append]
  simp
theorem t_swap {CR : Addr} {r : Nt.Row} {n g : Nt.Net} {q : Int} {a0 a1 b7 b9 c0 c1 c2 c3 : Option W} (okn : Nt.Ok r.length n) (okg : Nt.Ok r.length g) (hl : n.length + g.length ≤ 1000) (hw : r.length ≤ 8) : ∃ n' g' d9 e0 e1 e2 e3, Nt.Ok r.length n' ∧ Nt.Ok r.length g' ∧ n'.length + g'.length ≤ n.length + g.length + 1 ∧
    (sSeq (sAsg (Dv.e2 addD (eL (eRep (eRg1 (eVar 2)) (eC (.int 2)))) (eL (eNL mkL (eCons (eVar 2) (eCons (Dv.e1 negD (eC (.int 1))) (eCons (eC .none) (eCons (eC (.str "0")) (eCons (eC (.bool true)) eNil)))))))) (gN 9)) (sSeq (sAsg (Dv.e2 idxD (eVar 9) (Dv.e2 modD (Dv.e2 fdivD (eVar 8) (eC (.int 7))) (eN lenD (eCons (eVar 9) eNil)))) (gN 10)) (sSeq (sAsg (Dv.e2 idxD (eVar 9) (Dv.e2 modD (Dv.e2 fdivD (eVar 8) (eC (.int 256))) (eN lenD (eCons (eVar 9) eNil)))) (gN 11)) (sSeq (sAsg (eN g_law_is_swap (eCons (eN mkT (eCons (eVar 10) (eCons (eVar 11) eNil))) (eCons (eVar 2) eNil))) (gN 12)) (sSeq (sAsg (eC (.str "no swap")) (gN 13)) (sSeq (sIf (tB (eVar 12)) (sAsg (Dv.e2 neD (eN g_law_run (eCons (Dv.e2 addD (eVar 5) (eL (eNL mkL (eCons (eN mkT (eCons (eVar 10) (eCons (eVar 11) eNil))) eNil)))) (eCons (eVar 3) eNil))) (eN g_law_run (eCons (eVar 5) (eCons (eVar 3) eNil)))) (gN 13)) sNil) (sSeq (sIfM (mCmp neD (qFn 4 CR (g_law_deed CR) (eCons (eC (.str "swap")) (eCons (eVar 10) (eCons (eVar 11) eNil)))) (eVar 13)) (sRet (eC (.bool false))) sNil) (sIf (tB (eVar 12)) (sPar 5 6 (Dv.e2 addD (eVar 5) (eL (eNL mkL (eCons (eN mkT (eCons (eVar 10) (eCons (eVar 11) eNil))) eNil)))) (eL (eNL mkL eNil))) sNil)))))))) [a0, a1, some (.im (.int (r.length : Int))), some (.im (rowD r)), some (.ob CR (FsR r n g)), some (.im (.list (n.map swD))), some (.im (.list (g.map swD))), b7, some (.im (.int q)), b9, c0, c1, c2, c3] = some (.nx [a0, a1, some (.im (.int (r.length : Int))), some (.im (rowD r)), some (.ob CR (FsR r n' g')), some (.im (.list (n'.map swD))), some (.im (.list (g'.map swD))), b7, some (.im (.int q)), d9, e0, e1, e2, e3]) := by
  have m1 : -(1 : Int) = -1 := rfl
  have f7 : (0 : Int) < 7 ∧ (7 : Int) < 1073741824 := by decide
  have f256 : (0 : Int) < 256 ∧ (256 : Int) < 1073741824 := by decide
  have lp := someL_pos r.length
  obtain ⟨x, hx⟩ := at_mod lp (q / 7)
  obtain ⟨y, hy⟩ := at_mod lp (q / 256)
  have ll : lenD [.list (someL r.length)] = some (.int ((someL r.length).length : Int)) := rfl
  have md : ∀ z : Int, modD (.int z) (.int ((someL r.length).length : Int)) = some (.int (z % ((someL r.length).length : Int))) := fun z => modD_i (by omega)
  have z1 : (sAsg (Dv.e2 addD (eL (eRep (eRg1 (eVar 2)) (eC (.int 2)))) (eL (eNL mkL (eCons (eVar 2) (eCons (Dv.e1 negD (eC (.int 1))) (eCons (eC .none) (eCons (eC (.str "0")) (eCons (eC (.bool true)) eNil)))))))) (gN 9)) [a0, a1, some (.im (.int (r.length : Int))), some (.im (rowD r)), some (.ob CR (FsR r n g)), some (.im (.list (n.map swD))), some (.im (.list (g.map swD))), b7, some (.im (.int q)), b9, c0, c1, c2, c3] = some (.nx [a0, a1, some (.im (.int (r.length : Int))), some (.im (rowD r)), some (.ob CR (FsR r n g)), some (.im (.list (n.map swD))), some (.im (.list (g.map swD))), b7, some (.im (.int q)), some (.im (.list (someL r.length))), c0, c1, c2, c3]) := by
    have rg : rngD1 (.int (r.length : Int)) = some (rng 0 r.length) := by rw [rngD1_i (by omega), Int.toNat_natCast]
    have lr : (rng 0 r.length).length = r.length := by rw [rng0, List.length_map, List.length_range]
    have rp : repD (rng 0 r.length) (.int 2) = some (List.replicate 2 (rng 0 r.length)).flatten := if_pos ⟨by decide, by decide, by rw [lr, sizeLine_eq]; show r.length * 2 ≤ _; omega⟩
    have ml : mkL [.int (r.length : Int), .int (-1), .none, .str "0", .bool true] = some [.int (r.length : Int), .int (-1), .none, .str "0", .bool true] := mkL_ap (by simp)
    have lf : ((List.replicate 2 (rng 0 r.length)).flatten).length ≤ 16 := by
      simp only [List.replicate, List.flatten_cons, List.flatten_nil, List.append_nil, List.length_append, lr]
      omega
    have ad : addD (.list (List.replicate 2 (rng 0 r.length)).flatten) (.list [.int (r.length : Int), .int (-1), .none, .str "0", .bool true]) = some (.list (someL r.length)) := addD_l (by
      simp only [List.length_cons, List.length_nil]
      omega)
    simp only [sAsg_ap, Dv.e2_ap, eL_ap, eRep_ap, eRg1_ap, eVar_s, eVar_0, Option.bind_some, rg, eC_ap, rp, Option.map_some, eNL_ap, eCons_ap, eNil_ap, Dv.e1_ap, negD_i, m1, ml, ad, gN_ap, List.set_cons_succ, List.set_cons_zero]
  have z2 : (sAsg (Dv.e2 idxD (eVar 9) (Dv.e2 modD (Dv.e2 fdivD (eVar 8) (eC (.int 7))) (eN lenD (eCons (eVar 9) eNil)))) (gN 10)) [a0, a1, some (.im (.int (r.length : Int))), some (.im (rowD r)), some (.ob CR (FsR r n g)), some (.im (.list (n.map swD))), some (.im (.list (g.map swD))), b7, some (.im (.int q)), some (.im (.list (someL r.length))), c0, c1, c2, c3] = some (.nx [a0, a1, some (.im (.int (r.length : Int))), some (.im (rowD r)), some (.ob CR (FsR r n g)), some (.im (.list (n.map swD))), some (.im (.list (g.map swD))), b7, some (.im (.int q)), some (.im (.list (someL r.length))), some (.im x), c1, c2, c3]) := by
    simp only [sAsg_ap, Dv.e2_ap, eN_ap, eCons_ap, eNil_ap, eVar_s, eVar_0, eC_ap, Option.bind_some, Option.map_some, fdivD_i f7, ll, md, idxD_l, hx, gN_ap, List.set_cons_succ, List.set_cons_zero]
  have z3 : (sAsg (Dv.e2 idxD (eVar 9) (Dv.e2 modD (Dv.e2 fdivD (eVar 8) (eC (.int 256))) (eN lenD (eCons (eVar 9) eNil)))) (gN 11)) [a0, a1, some (.im (.int (r.length : Int))), some (.im (rowD r)), some (.ob CR (FsR r n g)), some (.im (.list (n.map swD))), some (.im (.list (g.map swD))), b7, some (.im (.int q)), some (.im (.list (someL r.length))), some (.im x), c1, c2, c3] = some (.nx [a0, a1, some (.im (.int (r.length : Int))), some (.im (rowD r)), some (.ob CR (FsR r n g)), some (.im (.list (n.map swD))), some (.im (.list (g.map swD))), b7, some (.im (.int q)), some (.im (.list (someL r.length))), some (.im x), some (.im y), c2, c3]) := by
    simp only [sAsg_ap, Dv.e2_ap, eN_ap, eCons_ap, eNil_ap, eVar_s, eVar_0, eC_ap, Option.bind_some, Option.map_some, fdivD_i f256, ll, md, idxD_l, hy, gN_ap, List.set_cons_succ, List.set_cons_zero]
  have t2 : mkT [x, y] = some (.tuple [x, y]) := mkT_ap (by simp)
  have z4 : (sAsg (eN g_law_is_swap (eCons (eN mkT (eCons (eVar 10) (eCons (eVar 11) eNil))) (eCons (eVar 2) eNil))) (gN 12)) [a0, a1, some (.im (.int (r.length : Int))), some (.im (rowD r)), some (.ob CR (FsR r n g)), some (.im (.list (n.map swD))), some (.im (.list (g.map swD))), b7, some (.im (.int q)), some (.im (.list (someL r.length))), some (.im x), some (.im y), c2, c3] = some (.nx [a0, a1, some (.im (.int (r.length : Int))), some (.im (rowD r)), some (.ob CR (FsR r n g)), some (.im (.list (n.map swD))), some (.im (.list (g.map swD))), b7, some (.im (.int q)), some (.im (.list (someL r.length))), some (.im x), some (.im y), some (.im (.bool (swapB r.length (.tuple [x, y])))), c3]) := by
    simp only [sAsg_ap, eN_ap, eCons_ap, eNil_ap, eVar_s, eVar_0, Option.bind_some, Option.map_some, t2, swap2, gN_ap, List.set_cons_succ, List.set_cons_zero]
  have z5 : (sAsg (eC (.str "no swap")) (gN 13)) [a0, a1, some (.im (.int (r.length : Int))), some (.im (rowD r)), some (.ob CR (FsR r n g)), some (.im (.list (n.map swD))), some (.im (.list (g.map swD))), b7, some (.im (.int q)), some (.im (.list (someL r.length))), some (.im x), some (.im y), some (.im (.bool (swapB r.length (.tuple [x, y])))), c3] = some (.nx [a0, a1, some (.im (.int (r.length : Int))), some (.im (rowD r)), some (.ob CR (FsR r n g)), some (.im (.list (n.map swD))), some (.im (.list (g.map swD))), b7, some (.im (.int q)), some (.im (.list (someL r.length))), some (.im x), some (.im y), some (.im (.bool (swapB r.length (.tuple [x, y])))), some (.im (.str "no swap"))]) := by
    simp only [sAsg_ap, eC_ap, Option.bind_some, Option.map_some, gN_ap, List.set_cons_succ, List.set_cons_zero]
  cases hb : swapB r.length (.tuple [x, y]) with
  | false =>
    rw [hb] at z4 z5
    have hq : qFn 4 CR (g_law_deed CR) (eCons (eC (.str "swap")) (eCons (eVar 10) (eCons (eVar 11) eNil))) [a0, a1, some (.im (.int (r.length : Int))), some (.im (rowD r)), some (.ob CR (FsR r n g)), some (.im (.list (n.map swD))), some (.im (.list (g.map swD))), b7, some (.im (.int q)), some (.im (.list (someL r.length))), some (.im x), some (.im y), some (.im (.bool false)), some (.im (.str "no swap"))] = some (.str "no swap", [a0, a1, some (.im (.int (r.length : Int))), some (.im (rowD r)), some (.ob CR (FsR r n g)), some (.im (.list (n.map swD))), some (.im (.list (g.map swD))), b7, some (.im (.int q)), some (.im (.list (someL r.length))), some (.im x), some (.im y), some (.im (.bool false)), some (.im (.str "no swap"))]) :=
      qFn_eq (fl := FsR r n g) (by simp only [obOf_s, obOf_ob]) (ds := [.str "swap", x, y]) rfl (al_deed_bad CR hb) rfl
    refine ⟨n, g, some (.im (.list (someL r.length))), some (.im x), some (.im y), some (.im (.bool false)), some (.im (.str "no swap")), okn, okg, by omega, ?_⟩
    rw [sSeq_ap, z1, Option.bind_some, thenD_nx, sSeq_ap, z2, Option.bind_some, thenD_nx, sSeq_ap, z3, Option.bind_some, thenD_nx, sSeq_ap, z4, Option.bind_some, thenD_nx, sSeq_ap, z5, Option.bind_some, thenD_nx, sSeq_ap]
    simp only [sIf_ap, tB_ap, eVar_s, eVar_0, Option.bind_some, asB_b, Bool.false_eq_true, if_false, sNil_ap, thenD_nx]
    rw [sSeq_ap, sIfM_ap, mCmp_ap, q2_ap, hq]
    simp only [Option.bind_some, eVar_s, eVar_0, neD_ns, Option.map_some, asB_b, Bool.false_eq_true, if_false, sNil_ap, thenD_nx, sIf_ap, tB_ap]
  | true =>
    rw [hb] at z4 z5
    obtain ⟨p, rfl, rfl, hp⟩ := swap_of hb
    have okp : Nt.Ok r.length (n ++ [p]) := okn.app (.cons hp (.nil _))
    have e1 : PyData.tuple [.int (p.1 : Int), .int (p.2 : Int)] = swD p := rfl
    have ad : addD (.list (n.map swD)) (.list [swD p]) = some (.list ((n ++ [p]).map swD)) := by rw [addD_l (by rw [List.length_map]; simp; omega), List.map_append]; rfl
    have r1 := sp_law_run_l okp
    have r2 := sp_law_run_l okn
    have z6 : (sIf (tB (eVar 12)) (sAsg (Dv.e2 neD (eN g_law_run (eCons (Dv.e2 addD (eVar 5) (eL (eNL mkL (eCons (eN mkT (eCons (eVar 10) (eCons (eVar 11) eNil))) eNil)))) (eCons (eVar 3) eNil))) (eN g_law_run (eCons (eVar 5) (eCons (eVar 3) eNil)))) (gN 13)) sNil) [a0, a1, some (.im (.int (r.length : Int))), some (.im (rowD r)), some (.ob CR (FsR r n g)), some (.im (.list (n.map swD))), some (.im (.list (g.map swD))), b7, some (.im (.int q)), some (.im (.list (someL r.length))), some (.im (.int (p.1 : Int))), some (.im (.int (p.2 : Int))), some (.im (.bool true)), some (.im (.str "no swap"))] = some (.nx [a0, a1, some (.im (.int (r.length : Int))), some (.im (rowD r)), some (.ob CR (FsR r n g)), some (.im (.list (n.map swD))), some (.im (.list (g.map swD))), b7, some (.im (.int q)), some (.im (.list (someL r.length))), some (.im (.int (p.1 : Int))), some (.im (.int (p.2 : Int))), some (.im (.bool true)), some (.im (.bool (decide (Nt.run (n ++ [p]) r ≠ Nt.run n r))))]) := by
      rw [e1] at t2
      simp only [sIf_ap, tB_ap, eVar_s, eVar_0, Option.bind_some, asB_b, if_true, sAsg_ap, Dv.e2_ap, eN_ap, eCons_ap, eNil_ap, eL_ap, eNL_ap, Option.map_some, t2, mkL_1, ad, r1, r2, neD_rows, gN_ap, List.set_cons_succ, List.set_cons_zero]
    have hq : qFn 4 CR (g_law_deed CR) (eCons (eC (.str "swap")) (eCons (eVar 10) (eCons (eVar 11) eNil))) [a0, a1, some (.im (.int (r.length : Int))), some (.im (rowD r)), some (.ob CR (FsR r n g)), some (.im (.list (n.map swD))), some (.im (.list (g.map swD))), b7, some (.im (.int q)), some (.im (.list (someL r.length))), some (.im (.int (p.1 : Int))), some (.im (.int (p.2 : Int))), some (.im (.bool true)), some (.im (.bool (decide (Nt.run (n ++ [p]) r ≠ Nt.run n r))))] = some (.bool (decide (Nt.run (n ++ [p]) r ≠ Nt.run n r)), [a0, a1, some (.im (.int (r.length : Int))), some (.im (rowD r)), some (.ob CR (FsR r (n ++ [p]) [])), some (.im (.list (n.map swD))), some (.im (.list (g.map swD))), b7, some (.im (.int q)), some (.im (.list (someL r.length))), some (.im (.int (p.1 : Int))), some (.im (.int (p.2 : Int))), some (.im (.bool true)), some (.im (.bool (decide (Nt.run (n ++ [p]) r ≠ Nt.run n r))))]) :=
      qFn_eq (fl := FsR r n g) (by simp only [obOf_s, obOf_ob]) (ds := [.str "swap", .int p.1, .int p.2]) rfl (al_deed_swap CR okn hp (by omega)) rfl
    refine ⟨n ++ [p], [], some (.im (.list (someL r.length))), some (.im (.int (p.1 : Int))), some (.im (.int (p.2 : Int))), some (.im (.bool true)), some (.im (.bool (decide (Nt.run (n ++ [p]) r ≠ Nt.run n r)))), okp, .nil _, by rw [List.length_append, List.length_singleton]; show _ + 0 ≤ _; omega, ?_⟩
    rw [sSeq_ap, z1, Option.bind_some, thenD_nx, sSeq_ap, z2, Option.bind_some, thenD_nx, sSeq_ap, z3, Option.bind_some, thenD_nx, sSeq_ap, z4, Option.bind_some, thenD_nx, sSeq_ap, z5, Option.bind_some, thenD_nx, sSeq_ap, z6, Option.bind_some, thenD_nx, sSeq_ap, sIfM_ap, mCmp_ap, q2_ap, hq]
    rw [e1] at t2
    have ml0 : mkL [] = some [] := mkL_ap (by simp)
    simp only [Option.bind_some, eVar_s, eVar_0, neD_bb, Option.map_some, asB_b, Bool.false_eq_true, if_false, sNil_ap, thenD_nx, sIf_ap, tB_ap, if_true, sPar, Dv.e2_ap, eL_ap, eNL_ap, eCons_ap, eNil_ap, eN_ap, t2, mkL_1, ad, ml0, List.set_cons_succ, List.set_cons_zero, List.map_nil]
theorem deeds {CR : Addr} {r : Nt.Row} {ns : List Int} {m3 : Nat} {a1 : Option W} (e3 : g_law_mixed [.list (ns.map PyData.int), .int 3] = some (.int (m3 : Int))) (hw : r.length ≤ 8) : ∀ (ks : List Nat) (n g : Nt.Net) (b7 b8 b9 c0 c1 c2 c3 : Option W), Nt.Ok r.length n → Nt.Ok r.length g → n.length + g.length + ks.length ≤ 1000 →
    ∃ ρ', forD (gN 7) (sSeq (sAsg (Dv.e2 fdivD (eN g_law_drawn (eCons (eN g_law_mixed (eCons (eVar 0) (eCons (eC (.int 3)) eNil))) (eCons (eVar 7) eNil))) (eC (.int 8))) (gN 8)) (sSeq (sIf (tB (Dv.e2 eqD (Dv.e2 modD (eVar 8) (eC (.int 7))) (eC (.int 0)))) (sSeq (sIfM (mCmp neD (qFn 4 CR (g_law_deed CR) (eCons (eC (.str "back")) (eCons (eC (.int 0)) (eCons (eC (.int 0)) eNil)))) (Dv.e2 idxD (Dv.e2 addD (eSl (eVar 5) (oSo (Dv.e1 negD (eC (.int 1)))) oNo) (eL (eNL mkL (eCons (eC (.str "no back")) eNil)))) (eC (.int 0)))) (sRet (eC (.bool false))) sNil) (sPar 5 6 (eSl (eVar 5) oNo (oSo (Dv.e1 negD (eC (.int 1))))) (Dv.e2 addD (eVar 6) (eSl (eVar 5) (oSo (Dv.e1 negD (eC (.int 1)))) oNo)))) (sIf (tB (Dv.e2 eqD (Dv.e2 modD (eVar 8) (eC (.int 7))) (eC (.int 1)))) (sSeq (sIfM (mCmp neD (qFn 4 CR (g_law_deed CR) (eCons (eC (.str "forth")) (eCons (eC (.int 0)) (eCons (eC (.int 0)) eNil)))) (Dv.e2 idxD (Dv.e2 addD (eSl (eVar 6) (oSo (Dv.e1 negD (eC (.int 1)))) oNo) (eL (eNL mkL (eCons (eC (.str "no back")) eNil)))) (eC (.int 0)))) (sRet (eC (.bool false))) sNil) (sPar 5 6 (Dv.e2 addD (eVar 5) (eSl (eVar 6) (oSo (Dv.e1 negD (eC (.int 1)))) oNo)) (eSl (eVar 6) oNo (oSo (Dv.e1 negD (eC (.int 1))))))) (sSeq (sAsg (Dv.e2 addD (eL (eRep (eRg1 (eVar 2)) (eC (.int 2)))) (eL (eNL mkL (eCons (eVar 2) (eCons (Dv.e1 negD (eC (.int 1))) (eCons (eC .none) (eCons (eC (.str "0")) (eCons (eC (.bool true)) eNil)))))))) (gN 9)) (sSeq (sAsg (Dv.e2 idxD (eVar 9) (Dv.e2 modD (Dv.e2 fdivD (eVar 8) (eC (.int 7))) (eN lenD (eCons (eVar 9) eNil)))) (gN 10)) (sSeq (sAsg (Dv.e2 idxD (eVar 9) (Dv.e2 modD (Dv.e2 fdivD (eVar 8) (eC (.int 256))) (eN lenD (eCons (eVar 9) eNil)))) (gN 11)) (sSeq (sAsg (eN g_law_is_swap (eCons (eN mkT (eCons (eVar 10) (eCons (eVar 11) eNil))) (eCons (eVar 2) eNil))) (gN 12)) (sSeq (sAsg (eC (.str "no swap")) (gN 13)) (sSeq (sIf (tB (eVar 12)) (sAsg (Dv.e2 neD (eN g_law_run (eCons (Dv.e2 addD (eVar 5) (eL (eNL mkL (eCons (eN mkT (eCons (eVar 10) (eCons (eVar 11) eNil))) eNil)))) (eCons (eVar 3) eNil))) (eN g_law_run (eCons (eVar 5) (eCons (eVar 3) eNil)))) (gN 13)) sNil) (sSeq (sIfM (mCmp neD (qFn 4 CR (g_law_deed CR) (eCons (eC (.str "swap")) (eCons (eVar 10) (eCons (eVar 11) eNil)))) (eVar 13)) (sRet (eC (.bool false))) sNil) (sIf (tB (eVar 12)) (sPar 5 6 (Dv.e2 addD (eVar 5) (eL (eNL mkL (eCons (eN mkT (eCons (eVar 10) (eCons (eVar 11) eNil))) eNil)))) (eL (eNL mkL eNil))) sNil)))))))))) (sIf (tNotD (tB (eOb 4 (eFo 4 CR (g_law_as CR) (eCons (eVar 3) (eCons (eVar 5) (eCons (eVar 6) eNil))))))) (sRet (eC (.bool false))) sNil))) (ks.map fun k => PyData.int ((k : Nat) : Int)) [some (.im (.list (ns.map PyData.int))), a1, some (.im (.int (r.length : Int))), some (.im (rowD r)), some (.ob CR (FsR r n g)), some (.im (.list (n.map swD))), some (.im (.list (g.map swD))), b7, b8, b9, c0, c1, c2, c3] = some (.nx ρ')
  | [], n, g, b7, b8, b9, c0, c1, c2, c3, _, _, _ => ⟨_, rfl⟩
  | k :: ks, n, g, b7, b8, b9, c0, c1, c2, c3, okn, okg, hl => by
    rw [List.length_cons] at hl
    have f8 : (0 : Int) < 8 ∧ (8 : Int) < 1073741824 := by decide
    have g7 : (0 : Int) < 7 := by decide
    have z1 : (sAsg (Dv.e2 fdivD (eN g_law_drawn (eCons (eN g_law_mixed (eCons (eVar 0) (eCons (eC (.int 3)) eNil))) (eCons (eVar 7) eNil))) (eC (.int 8))) (gN 8)) [some (.im (.list (ns.map PyData.int))), a1, some (.im (.int (r.length : Int))), some (.im (rowD r)), some (.ob CR (FsR r n g)), some (.im (.list (n.map swD))), some (.im (.list (g.map swD))), some (.im (.int (k : Int))), b8, b9, c0, c1, c2, c3] = some (.nx [some (.im (.list (ns.map PyData.int))), a1, some (.im (.int (r.length : Int))), some (.im (rowD r)), some (.ob CR (FsR r n g)), some (.im (.list (n.map swD))), some (.im (.list (g.map swD))), some (.im (.int (k : Int))), some (.im (.int (drawnT (m3 : Int) (k : Int) / 8))), b9, c0, c1, c2, c3]) := by
      simp only [sAsg_ap, Dv.e2_ap, eN_ap, eCons_ap, eNil_ap, eVar_s, eVar_0, eC_ap, Option.bind_some, Option.map_some, e3, sp_drawn, fdivD_i f8, gN_ap, List.set_cons_succ, List.set_cons_zero]
    obtain ⟨n', g', d9, f0, f1, f2, f3, okn', okg', hl', z2⟩ : ∃ n' g' d9 f0 f1 f2 f3, Nt.Ok r.length n' ∧ Nt.Ok r.length g' ∧ n'.length + g'.length ≤ n.length + g.length + 1 ∧ (sIf (tB (Dv.e2 eqD (Dv.e2 modD (eVar 8) (eC (.int 7))) (eC (.int 0)))) (sSeq (sIfM (mCmp neD (qFn 4 CR (g_law_deed CR) (eCons (eC (.str "back")) (eCons (eC (.int 0)) (eCons (eC (.int 0)) eNil)))) (Dv.e2 idxD (Dv.e2 addD (eSl (eVar 5) (oSo (Dv.e1 negD (eC (.int 1)))) oNo) (eL (eNL mkL (eCons (eC (.str "no back")) eNil)))) (eC (.int 0)))) (sRet (eC (.bool false))) sNil) (sPar 5 6 (eSl (eVar 5) oNo (oSo (Dv.e1 negD (eC (.int 1))))) (Dv.e2 addD (eVar 6) (eSl (eVar 5) (oSo (Dv.e1 negD (eC (.int 1)))) oNo)))) (sIf (tB (Dv.e2 eqD (Dv.e2 modD (eVar 8) (eC (.int 7))) (eC (.int 1)))) (sSeq (sIfM (mCmp neD (qFn 4 CR (g_law_deed CR) (eCons (eC (.str "forth")) (eCons (eC (.int 0)) (eCons (eC (.int 0)) eNil)))) (Dv.e2 idxD (Dv.e2 addD (eSl (eVar 6) (oSo (Dv.e1 negD (eC (.int 1)))) oNo) (eL (eNL mkL (eCons (eC (.str "no back")) eNil)))) (eC (.int 0)))) (sRet (eC (.bool false))) sNil) (sPar 5 6 (Dv.e2 addD (eVar 5) (eSl (eVar 6) (oSo (Dv.e1 negD (eC (.int 1)))) oNo)) (eSl (eVar 6) oNo (oSo (Dv.e1 negD (eC (.int 1))))))) (sSeq (sAsg (Dv.e2 addD (eL (eRep (eRg1 (eVar 2)) (eC (.int 2)))) (eL (eNL mkL (eCons (eVar 2) (eCons (Dv.e1 negD (eC (.int 1))) (eCons (eC .none) (eCons (eC (.str "0")) (eCons (eC (.bool true)) eNil)))))))) (gN 9)) (sSeq (sAsg (Dv.e2 idxD (eVar 9) (Dv.e2 modD (Dv.e2 fdivD (eVar 8) (eC (.int 7))) (eN lenD (eCons (eVar 9) eNil)))) (gN 10)) (sSeq (sAsg (Dv.e2 idxD (eVar 9) (Dv.e2 modD (Dv.e2 fdivD (eVar 8) (eC (.int 256))) (eN lenD (eCons (eVar 9) eNil)))) (gN 11)) (sSeq (sAsg (eN g_law_is_swap (eCons (eN mkT (eCons (eVar 10) (eCons (eVar 11) eNil))) (eCons (eVar 2) eNil))) (gN 12)) (sSeq (sAsg (eC (.str "no swap")) (gN 13)) (sSeq (sIf (tB (eVar 12)) (sAsg (Dv.e2 neD (eN g_law_run (eCons (Dv.e2 addD (eVar 5) (eL (eNL mkL (eCons (eN mkT (eCons (eVar 10) (eCons (eVar 11) eNil))) eNil)))) (eCons (eVar 3) eNil))) (eN g_law_run (eCons (eVar 5) (eCons (eVar 3) eNil)))) (gN 13)) sNil) (sSeq (sIfM (mCmp neD (qFn 4 CR (g_law_deed CR) (eCons (eC (.str "swap")) (eCons (eVar 10) (eCons (eVar 11) eNil)))) (eVar 13)) (sRet (eC (.bool false))) sNil) (sIf (tB (eVar 12)) (sPar 5 6 (Dv.e2 addD (eVar 5) (eL (eNL mkL (eCons (eN mkT (eCons (eVar 10) (eCons (eVar 11) eNil))) eNil)))) (eL (eNL mkL eNil))) sNil)))))))))) [some (.im (.list (ns.map PyData.int))), a1, some (.im (.int (r.length : Int))), some (.im (rowD r)), some (.ob CR (FsR r n g)), some (.im (.list (n.map swD))), some (.im (.list (g.map swD))), some (.im (.int (k : Int))), some (.im (.int (drawnT (m3 : Int) (k : Int) / 8))), b9, c0, c1, c2, c3] = some (.nx [some (.im (.list (ns.map PyData.int))), a1, some (.im (.int (r.length : Int))), some (.im (rowD r)), some (.ob CR (FsR r n' g')), some (.im (.list (n'.map swD))), some (.im (.list (g'.map swD))), some (.im (.int (k : Int))), some (.im (.int (drawnT (m3 : Int) (k : Int) / 8))), d9, f0, f1, f2, f3]) := by
      generalize drawnT (m3 : Int) (k : Int) / 8 = q
      by_cases h0 : q % 7 = 0
      · obtain ⟨n', g', o1, o2, o3, e⟩ := t_back (CR := CR) (a0 := some (.im (.list (ns.map PyData.int)))) (a1 := a1) (a2 := some (.im (.int (r.length : Int)))) (b7 := some (.im (.int (k : Int)))) (b8 := some (.im (.int q))) (b9 := b9) (c0 := c0) (c1 := c1) (c2 := c2) (c3 := c3) okn okg (by omega)
        refine ⟨n', g', b9, c0, c1, c2, c3, o1, o2, o3, ?_⟩
        rw [sIf_ap]
        simp only [tB_ap, Dv.e2_ap, eVar_s, eVar_0, eC_ap, Option.bind_some, modD_i g7, eqD_i, decide_eq_true h0, asB_b, if_true]
        exact e
      · by_cases h1 : q % 7 = 1
        · obtain ⟨n', g', o1, o2, o3, e⟩ := t_forth (CR := CR) (a0 := some (.im (.list (ns.map PyData.int)))) (a1 := a1) (a2 := some (.im (.int (r.length : Int)))) (b7 := some (.im (.int (k : Int)))) (b8 := some (.im (.int q))) (b9 := b9) (c0 := c0) (c1 := c1) (c2 := c2) (c3 := c3) okn okg (by omega)
          refine ⟨n', g', b9, c0, c1, c2, c3, o1, o2, o3, ?_⟩
          rw [sIf_ap]
          simp only [tB_ap, Dv.e2_ap, eVar_s, eVar_0, eC_ap, Option.bind_some, modD_i g7, eqD_i, decide_eq_false h0, asB_b, Bool.false_eq_true, if_false]
          rw [sIf_ap]
          simp only [tB_ap, Dv.e2_ap, eVar_s, eVar_0, eC_ap, Option.bind_some, modD_i g7, eqD_i, decide_eq_true h1, asB_b, if_true]
          exact e
        · obtain ⟨n', g', d9, f0, f1, f2, f3, o1, o2, o3, e⟩ := t_swap (CR := CR) (q := q) (a0 := some (.im (.list (ns.map PyData.int)))) (a1 := a1) (b7 := some (.im (.int (k : Int)))) (b9 := b9) (c0 := c0) (c1 := c1) (c2 := c2) (c3 := c3) okn okg (by omega) hw
          refine ⟨n', g', d9, f0, f1, f2, f3, o1, o2, o3, ?_⟩
          rw [sIf_ap]
          simp only [tB_ap, Dv.e2_ap, eVar_s, eVar_0, eC_ap, Option.bind_some, modD_i g7, eqD_i, decide_eq_false h0, asB_b, Bool.false_eq_true, if_false]
          rw [sIf_ap]
          simp only [tB_ap, Dv.e2_ap, eVar_s, eVar_0, eC_ap, Option.bind_some, modD_i g7, eqD_i, decide_eq_false h1, asB_b, Bool.false_eq_true, if_false]
          exact e
    have z3 : (sIf (tNotD (tB (eOb 4 (eFo 4 CR (g_law_as CR) (eCons (eVar 3) (eCons (eVar 5) (eCons (eVar 6) eNil))))))) (sRet (eC (.bool false))) sNil) [some (.im (.list (ns.map PyData.int))), a1, some (.im (.int (r.length : Int))), some (.im (rowD r)), some (.ob CR (FsR r n' g')), some (.im (.list (n'.map swD))), some (.im (.list (g'.map swD))), some (.im (.int (k : Int))), some (.im (.int (drawnT (m3 : Int) (k : Int) / 8))), d9, f0, f1, f2, f3] = some (.nx [some (.im (.list (ns.map PyData.int))), a1, some (.im (.int (r.length : Int))), some (.im (rowD r)), some (.ob CR (FsR r n' g')), some (.im (.list (n'.map swD))), some (.im (.list (g'.map swD))), some (.im (.int (k : Int))), some (.im (.int (drawnT (m3 : Int) (k : Int) / 8))), d9, f0, f1, f2, f3]) := by
      have as := sp_as (CR := CR) (g := g') okn' (by omega)
      simp only [sIf_ap, tNotD_ap, tB_ap, eOb_ap, isOb_s, isOb_ob, if_true, frO_s, frO_ob, eFo_ap, foOf_s, foOf_fo, eCons_ap, eNil_ap, eVar_s, eVar_0, Option.bind_some, Option.map_some, as, asB_b, Bool.not_true, Bool.false_eq_true, if_false, sNil_ap]
    obtain ⟨ρ', ih⟩ := deeds (CR := CR) (a1 := a1) e3 hw ks n' g' (some (.im (.int (k : Int)))) (some (.im (.int (drawnT (m3 : Int) (k : Int) / 8)))) d9 f0 f1 f2 f3 okn' okg' (by omega)
    refine ⟨ρ', ?_⟩
    rw [List.map_cons, forD_cons]
    simp only [gN_ap, List.set_cons_succ, List.set_cons_zero, Option.bind_some]
    rw [sSeq_ap, z1, Option.bind_some, thenD_nx, sSeq_ap, z2, Option.bind_some, thenD_nx, z3, Option.bind_some, loopD_nx]
    exact ih
theorem law_true (CR : Addr) (ns : List Int) (hl : ns.length ≤ 63) : g_law CR [.list (ns.map PyData.int)] = some (.bool true) := by
  obtain ⟨v, e0, _⟩ := mx ns 0
  obtain ⟨m1, e1, _⟩ := mx ns 1
  obtain ⟨m2, e2, _⟩ := mx ns 2
  obtain ⟨m3, e3, _⟩ := mx ns 3
  obtain ⟨w, ew, w1, w8⟩ := wide_of v 8 1
  obtain ⟨r, er, lr⟩ := rx ns 4 w m1 (by omega)
  have g8 : (0 : Int) < 8 := by decide
  have g21 : (0 : Int) < 21 := by decide
  have hw8 : w ≤ 8 := by omega
  have ew' : (1 : Int) + (v : Int) % 8 = (w : Int) := ew
  subst lr
  have z1 : (sAsg (eN g_law_mixed (eCons (eVar 0) (eCons (eC (.int 0)) eNil))) (gN 1)) [some (.im (.list (ns.map PyData.int))), none, none, none, none, none, none, none, none, none, none, none, none, none] = some (.nx [some (.im (.list (ns.map PyData.int))), some (.im (.int (v : Int))), none, none, none, none, none, none, none, none, none, none, none, none]) := by
    simp [e0]
  have z2 : (sAsg (Dv.e2 addD (eC (.int 1)) (Dv.e2 modD (eVar 1) (eC (.int 8)))) (gN 2)) [some (.im (.list (ns.map PyData.int))), some (.im (.int (v : Int))), none, none, none, none, none, none, none, none, none, none, none, none] = some (.nx [some (.im (.list (ns.map PyData.int))), some (.im (.int (v : Int))), some (.im (.int (r.length : Int))), none, none, none, none, none, none, none, none, none, none, none]) := by
    simp [modD_i g8, ew']
  have z3 : (sAsg (eN g_law_row (eCons (eVar 0) (eCons (eC (.int 4)) (eCons (eVar 2) (eCons (eN g_law_mixed (eCons (eVar 0) (eCons (eC (.int 1)) eNil))) eNil))))) (gN 3)) [some (.im (.list (ns.map PyData.int))), some (.im (.int (v : Int))), some (.im (.int (r.length : Int))), none, none, none, none, none, none, none, none, none, none, none] = some (.nx [some (.im (.list (ns.map PyData.int))), some (.im (.int (v : Int))), some (.im (.int (r.length : Int))), some (.im (rowD r)), none, none, none, none, none, none, none, none, none, none]) := by
    simp [e1, er]
  have z4 : (sMk 4 CR (g_Runner_init CR) (eCons (eVar 3) eNil)) [some (.im (.list (ns.map PyData.int))), some (.im (.int (v : Int))), some (.im (.int (r.length : Int))), some (.im (rowD r)), none, none, none, none, none, none, none, none, none, none] = some (.nx [some (.im (.list (ns.map PyData.int))), some (.im (.int (v : Int))), some (.im (.int (r.length : Int))), some (.im (rowD r)), some (.ob CR (FsR r [] [])), none, none, none, none, none, none, none, none, none]) :=
    sMk_eq (ds := [rowD r]) rfl (al_init CR r)
  have z5 : (sPar 5 6 (eL (eNL mkL eNil)) (eL (eNL mkL eNil))) [some (.im (.list (ns.map PyData.int))), some (.im (.int (v : Int))), some (.im (.int (r.length : Int))), some (.im (rowD r)), some (.ob CR (FsR r [] [])), none, none, none, none, none, none, none, none, none] = some (.nx [some (.im (.list (ns.map PyData.int))), some (.im (.int (v : Int))), some (.im (.int (r.length : Int))), some (.im (rowD r)), some (.ob CR (FsR r [] [])), some (.im (.list [])), some (.im (.list [])), none, none, none, none, none, none, none]) := by
    have ml0 : mkL [] = some [] := mkL_ap (by simp)
    simp only [sPar, eL_ap, eNL_ap, eNil_ap, Option.bind_some, ml0, Option.map_some, List.set_cons_succ, List.set_cons_zero]
  obtain ⟨k, hk, k25⟩ : ∃ k : Nat, (4 : Int) + (m2 : Int) % 21 = (k : Int) ∧ k < 25 := ⟨(4 + (m2 : Int) % 21).toNat, by omega, by omega⟩
  obtain ⟨ρ', h6⟩ := deeds (CR := CR) (r := r) (a1 := some (.im (.int (v : Int)))) e3 hw8 (List.range k) [] [] none none none none none none none (.nil _) (.nil _) (by rw [List.length_range]; show 0 + 0 + k ≤ _; omega)
  have z6 : (sFor (eNL rg1 (eCons (Dv.e2 addD (eC (.int 4)) (Dv.e2 modD (eN g_law_mixed (eCons (eVar 0) (eCons (eC (.int 2)) eNil))) (eC (.int 21)))) eNil)) (gN 7) (sSeq (sAsg (Dv.e2 fdivD (eN g_law_drawn (eCons (eN g_law_mixed (eCons (eVar 0) (eCons (eC (.int 3)) eNil))) (eCons (eVar 7) eNil))) (eC (.int 8))) (gN 8)) (sSeq (sIf (tB (Dv.e2 eqD (Dv.e2 modD (eVar 8) (eC (.int 7))) (eC (.int 0)))) (sSeq (sIfM (mCmp neD (qFn 4 CR (g_law_deed CR) (eCons (eC (.str "back")) (eCons (eC (.int 0)) (eCons (eC (.int 0)) eNil)))) (Dv.e2 idxD (Dv.e2 addD (eSl (eVar 5) (oSo (Dv.e1 negD (eC (.int 1)))) oNo) (eL (eNL mkL (eCons (eC (.str "no back")) eNil)))) (eC (.int 0)))) (sRet (eC (.bool false))) sNil) (sPar 5 6 (eSl (eVar 5) oNo (oSo (Dv.e1 negD (eC (.int 1))))) (Dv.e2 addD (eVar 6) (eSl (eVar 5) (oSo (Dv.e1 negD (eC (.int 1)))) oNo)))) (sIf (tB (Dv.e2 eqD (Dv.e2 modD (eVar 8) (eC (.int 7))) (eC (.int 1)))) (sSeq (sIfM (mCmp neD (qFn 4 CR (g_law_deed CR) (eCons (eC (.str "forth")) (eCons (eC (.int 0)) (eCons (eC (.int 0)) eNil)))) (Dv.e2 idxD (Dv.e2 addD (eSl (eVar 6) (oSo (Dv.e1 negD (eC (.int 1)))) oNo) (eL (eNL mkL (eCons (eC (.str "no back")) eNil)))) (eC (.int 0)))) (sRet (eC (.bool false))) sNil) (sPar 5 6 (Dv.e2 addD (eVar 5) (eSl (eVar 6) (oSo (Dv.e1 negD (eC (.int 1)))) oNo)) (eSl (eVar 6) oNo (oSo (Dv.e1 negD (eC (.int 1))))))) (sSeq (sAsg (Dv.e2 addD (eL (eRep (eRg1 (eVar 2)) (eC (.int 2)))) (eL (eNL mkL (eCons (eVar 2) (eCons (Dv.e1 negD (eC (.int 1))) (eCons (eC .none) (eCons (eC (.str "0")) (eCons (eC (.bool true)) eNil)))))))) (gN 9)) (sSeq (sAsg (Dv.e2 idxD (eVar 9) (Dv.e2 modD (Dv.e2 fdivD (eVar 8) (eC (.int 7))) (eN lenD (eCons (eVar 9) eNil)))) (gN 10)) (sSeq (sAsg (Dv.e2 idxD (eVar 9) (Dv.e2 modD (Dv.e2 fdivD (eVar 8) (eC (.int 256))) (eN lenD (eCons (eVar 9) eNil)))) (gN 11)) (sSeq (sAsg (eN g_law_is_swap (eCons (eN mkT (eCons (eVar 10) (eCons (eVar 11) eNil))) (eCons (eVar 2) eNil))) (gN 12)) (sSeq (sAsg (eC (.str "no swap")) (gN 13)) (sSeq (sIf (tB (eVar 12)) (sAsg (Dv.e2 neD (eN g_law_run (eCons (Dv.e2 addD (eVar 5) (eL (eNL mkL (eCons (eN mkT (eCons (eVar 10) (eCons (eVar 11) eNil))) eNil)))) (eCons (eVar 3) eNil))) (eN g_law_run (eCons (eVar 5) (eCons (eVar 3) eNil)))) (gN 13)) sNil) (sSeq (sIfM (mCmp neD (qFn 4 CR (g_law_deed CR) (eCons (eC (.str "swap")) (eCons (eVar 10) (eCons (eVar 11) eNil)))) (eVar 13)) (sRet (eC (.bool false))) sNil) (sIf (tB (eVar 12)) (sPar 5 6 (Dv.e2 addD (eVar 5) (eL (eNL mkL (eCons (eN mkT (eCons (eVar 10) (eCons (eVar 11) eNil))) eNil)))) (eL (eNL mkL eNil))) sNil)))))))))) (sIf (tNotD (tB (eOb 4 (eFo 4 CR (g_law_as CR) (eCons (eVar 3) (eCons (eVar 5) (eCons (eVar 6) eNil))))))) (sRet (eC (.bool false))) sNil)))) [some (.im (.list (ns.map PyData.int))), some (.im (.int (v : Int))), some (.im (.int (r.length : Int))), some (.im (rowD r)), some (.ob CR (FsR r [] [])), some (.im (.list [])), some (.im (.list [])), none, none, none, none, none, none, none] = some (.nx ρ') := by
    have rg : rg1 [.int (k : Int)] = some ((List.range k).map fun k => PyData.int ((k : Nat) : Int)) := by
      rw [rg1_i (by omega), Int.toNat_natCast, rng0]
    have iq : (eNL rg1 (eCons (Dv.e2 addD (eC (.int 4)) (Dv.e2 modD (eN g_law_mixed (eCons (eVar 0) (eCons (eC (.int 2)) eNil))) (eC (.int 21)))) eNil)) [some (.im (.list (ns.map PyData.int))), some (.im (.int (v : Int))), some (.im (.int (r.length : Int))), some (.im (rowD r)), some (.ob CR (FsR r [] [])), some (.im (.list [])), some (.im (.list [])), none, none, none, none, none, none, none] = some ((List.range k).map fun k => PyData.int ((k : Nat) : Int)) := by
      simp only [eNL_ap, eCons_ap, eNil_ap, Dv.e2_ap, eN_ap, eC_ap, eVar_0, Option.bind_some, Option.map_some, e2, modD_i g21, addD_i, hk, rg]
    rw [sFor_ap, iq, Option.bind_some]
    exact h6
  unfold g_law
  rw [fnD_ap (by rfl)]
  show outD (b_law CR [some (.im (.list (ns.map PyData.int))), none, none, none, none, none, none, none, none, none, none, none, none, none]) = _
  unfold b_law
  rw [sSeq_ap, z1, Option.bind_some, thenD_nx, sSeq_ap, z2, Option.bind_some, thenD_nx, sSeq_ap, z3, Option.bind_some, thenD_nx, sSeq_ap, z4, Option.bind_some, thenD_nx, sSeq_ap, z5, Option.bind_some, thenD_nx, sSeq_ap, z6, Option.bind_some, thenD_nx]
  rfl

def topS (i : Nat) : Stmt := PySem.Challenge.pw_swapyard_k70_whole_runners.main.body.getD i (.Pass ⟨0, 0, 0, 0⟩)
abbrev s_swapped : Stmt := topS 8
theorem sc_swapped : FnScope ["row", "one", "other", "found"] ["row", "one", "other"] (defScope s_swapped) := ⟨rfl, rfl, rfl, by decide +kernel, rfl, by decide +kernel, by decide +kernel⟩
abbrev s_run : Stmt := topS 9
theorem sc_run : FnScope ["net", "row", "one", "other"] ["net", "row"] (defScope s_run) := ⟨rfl, rfl, rfl, by decide +kernel, rfl, by decide +kernel, by decide +kernel⟩
abbrev s_is_whole : Stmt := topS 12
theorem sc_is_whole : FnScope ["thing"] ["thing"] (defScope s_is_whole) := ⟨rfl, rfl, rfl, by decide +kernel, rfl, by decide +kernel, by decide +kernel⟩
abbrev s_is_swap : Stmt := topS 13
theorem sc_is_swap : FnScope ["thing", "wide", "line"] ["thing", "wide"] (defScope s_is_swap) := ⟨rfl, rfl, rfl, by decide +kernel, rfl, by decide +kernel, by decide +kernel⟩
abbrev s_is_net : Stmt := topS 14
theorem sc_is_net : FnScope ["thing", "wide", "part"] ["thing", "wide"] (defScope s_is_net) := ⟨rfl, rfl, rfl, by decide +kernel, rfl, by decide +kernel, by decide +kernel⟩
abbrev s_Runner_init : Stmt := inClass (topS 16) 0
theorem sc_Runner_init : FnScope ["self", "row"] ["self", "row"] (defScope s_Runner_init) := ⟨rfl, rfl, rfl, by decide +kernel, rfl, by decide +kernel, by decide +kernel⟩
abbrev s_Runner_row_now : Stmt := inClass (topS 16) 1
theorem sc_Runner_row_now : FnScope ["self"] ["self"] (defScope s_Runner_row_now) := ⟨rfl, rfl, rfl, by decide +kernel, rfl, by decide +kernel, by decide +kernel⟩
abbrev s_Runner_swap : Stmt := inClass (topS 16) 2
theorem sc_Runner_swap : FnScope ["self", "one", "other", "had"] ["self", "one", "other"] (defScope s_Runner_swap) := ⟨rfl, rfl, rfl, by decide +kernel, rfl, by decide +kernel, by decide +kernel⟩
abbrev s_Runner_net : Stmt := inClass (topS 16) 3
theorem sc_Runner_net : FnScope ["self"] ["self"] (defScope s_Runner_net) := ⟨rfl, rfl, rfl, by decide +kernel, rfl, by decide +kernel, by decide +kernel⟩
abbrev s_Runner_idle : Stmt := inClass (topS 16) 4
theorem sc_Runner_idle : FnScope ["self", "found", "k"] ["self"] (defScope s_Runner_idle) := ⟨rfl, rfl, rfl, by decide +kernel, rfl, by decide +kernel, by decide +kernel⟩
abbrev s_Runner_is_done : Stmt := inClass (topS 16) 5
theorem sc_Runner_is_done : FnScope ["self"] ["self"] (defScope s_Runner_is_done) := ⟨rfl, rfl, rfl, by decide +kernel, rfl, by decide +kernel, by decide +kernel⟩
abbrev s_Runner_back : Stmt := inClass (topS 16) 6
theorem sc_Runner_back : FnScope ["self", "swap"] ["self"] (defScope s_Runner_back) := ⟨rfl, rfl, rfl, by decide +kernel, rfl, by decide +kernel, by decide +kernel⟩
abbrev s_Runner_forth : Stmt := inClass (topS 16) 7
theorem sc_Runner_forth : FnScope ["self", "swap"] ["self"] (defScope s_Runner_forth) := ⟨rfl, rfl, rfl, by decide +kernel, rfl, by decide +kernel, by decide +kernel⟩
abbrev s_Runner_tally : Stmt := inClass (topS 16) 8
theorem sc_Runner_tally : FnScope ["self"] ["self"] (defScope s_Runner_tally) := ⟨rfl, rfl, rfl, by decide +kernel, rfl, by decide +kernel, by decide +kernel⟩
abbrev s_law_cell_at : Stmt := topS 18
theorem sc_law_cell_at : FnScope ["_law_script", "_law_k"] ["_law_script", "_law_k"] (defScope s_law_cell_at) := ⟨rfl, rfl, rfl, by decide +kernel, rfl, by decide +kernel, by decide +kernel⟩
abbrev s_law_mixed : Stmt := topS 19
theorem sc_law_mixed : FnScope ["_law_script", "_law_k", "_law_drawn_here"] ["_law_script", "_law_k"] (defScope s_law_mixed) := ⟨rfl, rfl, rfl, by decide +kernel, rfl, by decide +kernel, by decide +kernel⟩
abbrev s_law_drawn : Stmt := topS 20
theorem sc_law_drawn : FnScope ["_law_number", "_law_k", "_law_drawn_here"] ["_law_number", "_law_k"] (defScope s_law_drawn) := ⟨rfl, rfl, rfl, by decide +kernel, rfl, by decide +kernel, by decide +kernel⟩
abbrev s_law_row : Stmt := topS 21
theorem sc_law_row : FnScope ["_law_script", "_law_at", "_law_wide", "_law_number", "_law_found", "_law_k", "_law_part"] ["_law_script", "_law_at", "_law_wide", "_law_number"] (defScope s_law_row) := ⟨rfl, rfl, rfl, by decide +kernel, rfl, by decide +kernel, by decide +kernel⟩
abbrev s_law_whole : Stmt := topS 22
theorem sc_law_whole : FnScope ["_law_thing"] ["_law_thing"] (defScope s_law_whole) := ⟨rfl, rfl, rfl, by decide +kernel, rfl, by decide +kernel, by decide +kernel⟩
abbrev s_law_is_swap : Stmt := topS 23
theorem sc_law_is_swap : FnScope ["_law_thing", "_law_wide"] ["_law_thing", "_law_wide"] (defScope s_law_is_swap) := ⟨rfl, rfl, rfl, by decide +kernel, rfl, by decide +kernel, by decide +kernel⟩
abbrev s_law_run : Stmt := topS 24
theorem sc_law_run : FnScope ["_law_net", "_law_row_here", "_law_found", "_law_one", "_law_other", "_law_low"] ["_law_net", "_law_row_here"] (defScope s_law_run) := ⟨rfl, rfl, rfl, by decide +kernel, rfl, by decide +kernel, by decide +kernel⟩
abbrev s_law_deed : Stmt := topS 25
theorem sc_law_deed : FnScope ["_law_runner", "_law_word", "_law_one", "_law_other", "refusal"] ["_law_runner", "_law_word", "_law_one", "_law_other"] (defScope s_law_deed) := ⟨rfl, rfl, rfl, by decide +kernel, rfl, by decide +kernel, by decide +kernel⟩
abbrev s_law_as : Stmt := topS 26
theorem sc_law_as : FnScope ["_law_runner", "_law_row_here", "_law_swaps", "_law_gone", "_law_here", "_law_rows", "_law_k"] ["_law_runner", "_law_row_here", "_law_swaps", "_law_gone"] (defScope s_law_as) := ⟨rfl, rfl, rfl, by decide +kernel, rfl, by decide +kernel, by decide +kernel⟩
abbrev s_law : Stmt := topS 27
theorem sc_law : FnScope ["_law_script", "_law_number", "_law_wide", "_law_row_here", "_law_runner", "_law_swaps", "_law_gone", "_law_k", "_law_drawn_here", "_law_some", "_law_one", "_law_other", "_law_good", "_law_due"] ["_law_script"] (defScope s_law) := ⟨rfl, rfl, rfl, by decide +kernel, rfl, by decide +kernel, by decide +kernel⟩
structure Txt (mg : Str → Option Value) (tk0 : Tok) : Prop where
  b_all : mg "all" = none
  b_bool : mg "bool" = none
  b_int : mg "int" = none
  b_isinstance : mg "isinstance" = none
  b_len : mg "len" = none
  b_list : mg "list" = none
  b_max : mg "max" = none
  b_min : mg "min" = none
  b_range : mg "range" = none
  b_sorted : mg "sorted" = none
  b_tuple : mg "tuple" = none
  k_MOST : mg "MOST" = some (.int 40 tk0)
structure XTxt (K : PySem.W.Frag) (mg : Str → Option Value) (C_SwapError C_NoNet C_NoText C_NoSwap C_NoBack : Addr) : Prop where
  g_SwapError : mg "SwapError" = some (.ref C_SwapError)
  g_NoNet : mg "NoNet" = some (.ref C_NoNet)
  g_NoText : mg "NoText" = some (.ref C_NoText)
  g_NoSwap : mg "NoSwap" = some (.ref C_NoSwap)
  g_NoBack : mg "NoBack" = some (.ref C_NoBack)
  f_NoSwap : ExF K mg "NoSwap" C_NoSwap
  i_NoSwap : ExcC K C_NoSwap
  f_NoBack : ExF K mg "NoBack" C_NoBack
  i_NoBack : ExcC K C_NoBack
  m_NoSwap_SwapError : PySem.W.exmOne K (.ref C_NoSwap) (.ref C_SwapError) = some true
  m_NoBack_SwapError : PySem.W.exmOne K (.ref C_NoBack) (.ref C_SwapError) = some true
  k_NoSwap_NoNet : PySem.W.kitOne K (.ref C_NoSwap) (.ref C_NoNet) = some false
  k_NoSwap_NoText : PySem.W.kitOne K (.ref C_NoSwap) (.ref C_NoText) = some false
  k_NoSwap_NoSwap : PySem.W.kitOne K (.ref C_NoSwap) (.ref C_NoSwap) = some true
  k_NoSwap_NoBack : PySem.W.kitOne K (.ref C_NoSwap) (.ref C_NoBack) = some false
  k_NoBack_NoNet : PySem.W.kitOne K (.ref C_NoBack) (.ref C_NoNet) = some false
  k_NoBack_NoText : PySem.W.kitOne K (.ref C_NoBack) (.ref C_NoText) = some false
  k_NoBack_NoSwap : PySem.W.kitOne K (.ref C_NoBack) (.ref C_NoSwap) = some false
  k_NoBack_NoBack : PySem.W.kitOne K (.ref C_NoBack) (.ref C_NoBack) = some true
structure CTxt (K : PySem.W.Frag) (mg : Str → Option Value) (CR : Addr) : Prop where
  cl : Cls K CR
  g : mg "Runner" = some (.ref CR)
  n_first : NoAttr K CR "first"
  n_swaps : NoAttr K CR "swaps"
  n_gone : NoAttr K CR "gone"
section
variable {P : Program} {w : World} {K : PySem.W.Frag} {mg : Str → Option Value} {base : Heap} {f : Addr} {fd : FuncData} {tk0 : Tok} {C_SwapError C_NoNet C_NoText C_NoSwap C_NoBack : Addr}
theorem c_swapped (T : Txt mg tk0) (X2 : XTxt K mg C_SwapError C_NoNet C_NoText C_NoSwap C_NoBack) (F : Fun K "swapped" "swapped" s_swapped f fd) (hm : mg "swapped" = some (.ref f)) (b : Binds K fd ["row", "one", "other"] [])  : CalD P w K mg base 1 "swapped" 3 g_swapped :=
  cal_mk 3 1 F hm b sc_swapped rfl rfl fun cdv A outer s H E hr => by
    have hu := hr.units
    exact (dss_cons (ds_setL 3 sc_swapped.nd (dl_callTy call_list_of v_list (by rfl) T.b_list boot_list (da_cons (de_var 0) da_nil)))
  (dss_cons (ds_asg (de_callB (call_min2 (by rfl)) v_min2 (by rfl) T.b_min (by decide +kernel) (da_cons (de_ix (de_var 0) (de_var 1)) (da_cons (de_ix (de_var 0) (de_var 2)) da_nil))) (dg_sub 3 (de_var 1)))
  (dss_cons (ds_asg (de_callB (call_max2 (by rfl)) v_max2 (by rfl) T.b_max (by decide +kernel) (da_cons (de_ix (de_var 0) (de_var 1)) (da_cons (de_ix (de_var 0) (de_var 2)) da_nil))) (dg_sub 3 (de_var 2)))
  (dss_one (ds_ret (de_tupM 3 (by rfl) T.b_tuple))))))
theorem c_run (T : Txt mg tk0) (X2 : XTxt K mg C_SwapError C_NoNet C_NoText C_NoSwap C_NoBack) (F : Fun K "run" "run" s_run f fd) (hm : mg "run" = some (.ref f)) (b : Binds K fd ["net", "row"] []) (c_swapped : CalD P w K mg base 1 "swapped" 3 g_swapped) : CalD P w K mg base 2 "run" 2 g_run :=
  cal_mk 2 2 F hm b sc_run rfl rfl fun cdv A outer s H E hr => by
    have hu := hr.units
    exact (dss_cons (ds_for PassesOwn.never (by rfl) (di_seq (de_var 0)) (dg_tup (by rfl) (dgs_cons (dg_name 2 sc_run.nd) (dgs_cons (dg_name 3 sc_run.nd) dgs_nil))) (dss_one (ds_set 1 sc_run.nd (de_fn c_swapped hr (by decide) (by rfl) (da_cons (de_var 1) (da_cons (de_var 2) (da_cons (de_var 3) da_nil))) (len_cons (len_cons (len_cons len_nil)))))))
  (dss_one (ds_ret (de_var 1))))
theorem c_is_whole (T : Txt mg tk0) (X2 : XTxt K mg C_SwapError C_NoNet C_NoText C_NoSwap C_NoBack) (F : Fun K "is_whole" "is_whole" s_is_whole f fd) (hm : mg "is_whole" = some (.ref f)) (b : Binds K fd ["thing"] [])  : CalD P w K mg base 1 "is_whole" 1 g_is_whole :=
  cal_mk 1 0 F hm b sc_is_whole rfl rfl fun cdv A outer s H E hr => by
    have hu := hr.units
    exact (dss_one (ds_ret (de_and (de_isi (T := "int") (de_var 0) (by rfl) T.b_isinstance (by rfl) T.b_int (by decide +kernel)) (de_one (de_not (de_isi (T := "bool") (de_var 0) (by rfl) T.b_isinstance (by rfl) T.b_bool (by decide +kernel)))))))
theorem c_is_swap (T : Txt mg tk0) (X2 : XTxt K mg C_SwapError C_NoNet C_NoText C_NoSwap C_NoBack) (F : Fun K "is_swap" "is_swap" s_is_swap f fd) (hm : mg "is_swap" = some (.ref f)) (b : Binds K fd ["thing", "wide"] []) (c_is_whole : CalD P w K mg base 1 "is_whole" 1 g_is_whole) : CalD P w K mg base 2 "is_swap" 2 g_is_swap :=
  cal_mk 2 1 F hm b sc_is_swap rfl rfl fun cdv A outer s H E hr => by
    have hu := hr.units
    exact (dss_cons (ds_if ((dw_or (dt_not (dt_val (de_isi (T := "tuple") (de_var 0) (by rfl) T.b_isinstance (by rfl) T.b_tuple (by decide +kernel)))) (dw_or1 (dt_cmp (op_neD hu) v_ne (de_callB call_len v_len (by rfl) T.b_len PySem.boot_len (da_cons (de_var 0) da_nil)) de_int (nomark _))))).dt (dss_one (ds_ret de_bl)) dss_nil)
  (dss_one (ds_ret (de_and (de_callB (cr_all (by rfl)) v_all (by rfl) T.b_all (by decide +kernel) (da_cons ((dl_lc (by rfl) sc_is_swap.nd (di_seq (de_var 0)) (blkOk_by (own := [("line", 2)]) (by kernel_rfl)) (fun _ _ _ _ _ => (dgc_name 2 sc_is_swap.nd)) (fun _ _ _ _ _ => dts_nil) (fun _ _ _ _ _ => (de_and (de_fn c_is_whole hr (by decide) (by rfl) (da_cons (de_var 2) da_nil) (len_cons len_nil)) (de_one (de_chain op_le v_le op_lt v_lt de_int (de_var 2) (de_var 1))))))).de da_nil)) (de_one (de_cmp (op_neD hu) v_ne (de_ix (de_var 0) de_int) (de_ix (de_var 0) de_int) (nomark _)))))))
theorem c_is_net (T : Txt mg tk0) (X2 : XTxt K mg C_SwapError C_NoNet C_NoText C_NoSwap C_NoBack) (F : Fun K "is_net" "is_net" s_is_net f fd) (hm : mg "is_net" = some (.ref f)) (b : Binds K fd ["thing", "wide"] []) (c_is_swap : CalD P w K mg base 2 "is_swap" 2 g_is_swap) : CalD P w K mg base 3 "is_net" 2 g_is_net :=
  cal_mk 2 1 F hm b sc_is_net rfl rfl fun cdv A outer s H E hr => by
    have hu := hr.units
    exact (dss_one (ds_ret (de_and (de_isi (T := "tuple") (de_var 0) (by rfl) T.b_isinstance (by rfl) T.b_tuple (by decide +kernel)) (de_and (de_cmp op_le v_le (de_callB call_len v_len (by rfl) T.b_len PySem.boot_len (da_cons (de_var 0) da_nil)) (de_gint (by rfl) T.k_MOST) (nomark _)) (de_one (de_callB (cr_all (by rfl)) v_all (by rfl) T.b_all (by decide +kernel) (da_cons ((dl_lc (by rfl) sc_is_net.nd (di_seq (de_var 0)) (blkOk_by (own := [("part", 2)]) (by kernel_rfl)) (fun _ _ _ _ _ => (dgc_name 2 sc_is_net.nd)) (fun _ _ _ _ _ => dts_nil) (fun _ _ _ _ _ => (de_fn c_is_swap hr (by decide) (by rfl) (da_cons (de_var 2) (da_cons (de_var 1) da_nil)) (len_cons (len_cons len_nil)))))).de da_nil)))))))
theorem c_law_cell_at (T : Txt mg tk0) (X2 : XTxt K mg C_SwapError C_NoNet C_NoText C_NoSwap C_NoBack) (F : Fun K "_law_cell_at" "_law_cell_at" s_law_cell_at f fd) (hm : mg "_law_cell_at" = some (.ref f)) (b : Binds K fd ["_law_script", "_law_k"] [])  : CalD P w K mg base 1 "_law_cell_at" 2 g_law_cell_at :=
  cal_mk 2 0 F hm b sc_law_cell_at rfl rfl fun cdv A outer s H E hr => by
    have hu := hr.units
    exact (dss_cons (ds_if (dt_cmp op_lt v_lt (de_var 1) (de_callB call_len v_len (by rfl) T.b_len PySem.boot_len (da_cons (de_var 0) da_nil)) (nomark _)) (dss_one (ds_ret (de_ix (de_var 0) (de_var 1)))) dss_nil)
  (dss_one (ds_ret de_int)))
theorem c_law_mixed (T : Txt mg tk0) (X2 : XTxt K mg C_SwapError C_NoNet C_NoText C_NoSwap C_NoBack) (F : Fun K "_law_mixed" "_law_mixed" s_law_mixed f fd) (hm : mg "_law_mixed" = some (.ref f)) (b : Binds K fd ["_law_script", "_law_k"] []) (c_law_cell_at : CalD P w K mg base 1 "_law_cell_at" 2 g_law_cell_at) : CalD P w K mg base 2 "_law_mixed" 2 g_law_mixed :=
  cal_mk 2 1 F hm b sc_law_mixed rfl rfl fun cdv A outer s H E hr => by
    have hu := hr.units
    exact (dss_cons (ds_set 2 sc_law_mixed.nd (de_op op_mod v_mod (de_op op_mulA v_mul (de_op op_addA v_add (de_op op_addA v_add (de_fn c_law_cell_at hr (by decide) (by rfl) (da_cons (de_var 0) (da_cons (de_var 1) da_nil)) (len_cons (len_cons len_nil))) (de_op op_mulA v_mul de_int (de_var 1))) de_int) de_int) de_int))
  (dss_one (ds_ret (de_op op_mod v_mod (de_op op_addA v_add (de_op op_addA v_add (de_op op_mulA v_mul (de_var 2) (de_var 2)) (de_op op_mulA v_mul de_int (de_var 2))) (de_var 1)) de_int))))
theorem c_law_drawn (T : Txt mg tk0) (X2 : XTxt K mg C_SwapError C_NoNet C_NoText C_NoSwap C_NoBack) (F : Fun K "_law_drawn" "_law_drawn" s_law_drawn f fd) (hm : mg "_law_drawn" = some (.ref f)) (b : Binds K fd ["_law_number", "_law_k"] [])  : CalD P w K mg base 1 "_law_drawn" 2 g_law_drawn :=
  cal_mk 2 1 F hm b sc_law_drawn rfl rfl fun cdv A outer s H E hr => by
    have hu := hr.units
    exact (dss_cons (ds_set 2 sc_law_drawn.nd (de_op op_mod v_mod (de_op op_mulA v_mul (de_op op_addA v_add (de_op op_addA v_add (de_var 0) (de_op op_mulA v_mul de_int (de_var 1))) de_int) de_int) de_int))
  (dss_one (ds_ret (de_op op_mod v_mod (de_op op_addA v_add (de_op op_addA v_add (de_op op_mulA v_mul (de_var 2) (de_var 2)) (de_op op_mulA v_mul de_int (de_var 2))) (de_var 1)) de_int))))
theorem c_law_row (T : Txt mg tk0) (X2 : XTxt K mg C_SwapError C_NoNet C_NoText C_NoSwap C_NoBack) (F : Fun K "_law_row" "_law_row" s_law_row f fd) (hm : mg "_law_row" = some (.ref f)) (b : Binds K fd ["_law_script", "_law_at", "_law_wide", "_law_number"] []) (c_law_cell_at : CalD P w K mg base 1 "_law_cell_at" 2 g_law_cell_at) (c_law_drawn : CalD P w K mg base 1 "_law_drawn" 2 g_law_drawn) : CalD P w K mg base 2 "_law_row" 4 g_law_row :=
  cal_mk 4 3 F hm b sc_law_row rfl rfl fun cdv A outer s H E hr => by
    have hu := hr.units
    exact (dss_cons (ds_setLc 4 (by rfl) sc_law_row.nd (di_range1 (da_cons (de_var 2) da_nil) (by rfl) T.b_range) (blkOk_by (own := [("_law_k", 5)]) (by kernel_rfl)) (fun _ _ _ _ _ => (dgc_name 5 sc_law_row.nd)) (fun _ _ _ _ _ => dts_nil) (fun _ _ _ _ _ => (de_fn c_law_cell_at hr (by decide) (by rfl) (da_cons (de_var 0) (da_cons (de_op op_addA v_add (de_var 1) (de_var 5)) da_nil)) (len_cons (len_cons len_nil)))) (sw_true (by rfl) (by rfl) (by rfl) (by decide +kernel)))
  (dss_cons (ds_if (dt_cmp (op_eqD hu) v_eq (de_op op_mod v_mod (de_var 3) de_int) de_int (nomark _)) (dss_one (ds_setLc 4 (by rfl) sc_law_row.nd (di_seq (de_var 4)) (blkOk_by (own := [("_law_part", 6)]) (by kernel_rfl)) (fun _ _ _ _ _ => (dgc_name 6 sc_law_row.nd)) (fun _ _ _ _ _ => dts_nil) (fun _ _ _ _ _ => (de_op op_mod v_mod (de_var 6) de_int)) (sw_true (by rfl) (by rfl) (by rfl) (by decide +kernel)))) dss_nil)
  (dss_cons (ds_if (dt_cmp (op_eqD hu) v_eq (de_op op_mod v_mod (de_var 3) de_int) de_int (nomark _)) (dss_one (ds_setLc 4 (by rfl) sc_law_row.nd (di_range1 (da_cons (de_var 2) da_nil) (by rfl) T.b_range) (blkOk_by (own := [("_law_k", 5)]) (by kernel_rfl)) (fun _ _ _ _ _ => (dgc_name 5 sc_law_row.nd)) (fun _ _ _ _ _ => dts_nil) (fun _ _ _ _ _ => (de_op op_mod v_mod (de_fn c_law_drawn hr (by decide) (by rfl) (da_cons (de_var 3) (da_cons (de_var 5) da_nil)) (len_cons (len_cons len_nil))) (de_ix (de_tup (da_cons de_int (da_cons de_int (da_cons de_int (da_cons de_int da_nil))))) (de_op op_mod v_mod (de_op op_fdiv v_fdiv (de_var 3) de_int) de_int)))) (sw_true (by rfl) (by rfl) (by rfl) (by decide +kernel)))) dss_nil)
  (dss_one (ds_ret (de_callTy call_tuple_of v_tup (by rfl) T.b_tuple boot_tuple (da_cons (de_var 4) da_nil)))))))
theorem c_law_whole (T : Txt mg tk0) (X2 : XTxt K mg C_SwapError C_NoNet C_NoText C_NoSwap C_NoBack) (F : Fun K "_law_whole" "_law_whole" s_law_whole f fd) (hm : mg "_law_whole" = some (.ref f)) (b : Binds K fd ["_law_thing"] [])  : CalD P w K mg base 1 "_law_whole" 1 g_law_whole :=
  cal_mk 1 0 F hm b sc_law_whole rfl rfl fun cdv A outer s H E hr => by
    have hu := hr.units
    exact (dss_one (ds_ret (de_and (de_isi (T := "int") (de_var 0) (by rfl) T.b_isinstance (by rfl) T.b_int (by decide +kernel)) (de_one (de_not (de_isi (T := "bool") (de_var 0) (by rfl) T.b_isinstance (by rfl) T.b_bool (by decide +kernel)))))))
theorem c_law_is_swap (T : Txt mg tk0) (X2 : XTxt K mg C_SwapError C_NoNet C_NoText C_NoSwap C_NoBack) (F : Fun K "_law_is_swap" "_law_is_swap" s_law_is_swap f fd) (hm : mg "_law_is_swap" = some (.ref f)) (b : Binds K fd ["_law_thing", "_law_wide"] []) (c_law_whole : CalD P w K mg base 1 "_law_whole" 1 g_law_whole) : CalD P w K mg base 2 "_law_is_swap" 2 g_law_is_swap :=
  cal_mk 2 0 F hm b sc_law_is_swap rfl rfl fun cdv A outer s H E hr => by
    have hu := hr.units
    exact (dss_cons (ds_if ((dw_or (dt_not (dt_val (de_isi (T := "tuple") (de_var 0) (by rfl) T.b_isinstance (by rfl) T.b_tuple (by decide +kernel)))) (dw_or (dt_cmp (op_neD hu) v_ne (de_callB call_len v_len (by rfl) T.b_len PySem.boot_len (da_cons (de_var 0) da_nil)) de_int (nomark _)) (dw_or (dt_not (dt_val (de_fn c_law_whole hr (by decide) (by rfl) (da_cons (de_ix (de_var 0) de_int) da_nil) (len_cons len_nil)))) (dw_or1 (dt_not (dt_val (de_fn c_law_whole hr (by decide) (by rfl) (da_cons (de_ix (de_var 0) de_int) da_nil) (len_cons len_nil))))))))).dt (dss_one (ds_ret de_bl)) dss_nil)
  (dss_one (ds_ret (de_and (de_chain op_le v_le op_lt v_lt de_int (de_ix (de_var 0) de_int) (de_var 1)) (de_and (de_chain op_le v_le op_lt v_lt de_int (de_ix (de_var 0) de_int) (de_var 1)) (de_one (de_cmp (op_neD hu) v_ne (de_ix (de_var 0) de_int) (de_ix (de_var 0) de_int) (nomark _))))))))
theorem c_law_run (T : Txt mg tk0) (X2 : XTxt K mg C_SwapError C_NoNet C_NoText C_NoSwap C_NoBack) (F : Fun K "_law_run" "_law_run" s_law_run f fd) (hm : mg "_law_run" = some (.ref f)) (b : Binds K fd ["_law_net", "_law_row_here"] [])  : CalD P w K mg base 1 "_law_run" 2 g_law_run :=
  cal_mk 2 4 F hm b sc_law_run rfl rfl fun cdv A outer s H E hr => by
    have hu := hr.units
    exact (dss_cons (ds_setL 2 sc_law_run.nd (dl_callTy call_list_of v_list (by rfl) T.b_list boot_list (da_cons (de_var 1) da_nil)))
  (dss_cons (ds_for PassesOwn.never (by rfl) (di_seq (de_var 0)) (dg_tup (by rfl) (dgs_cons (dg_name 3 sc_law_run.nd) (dgs_cons (dg_name 4 sc_law_run.nd) dgs_nil))) (dss_cons (ds_set 5 sc_law_run.nd (de_callB (call_min2 (by rfl)) v_min2 (by rfl) T.b_min (by decide +kernel) (da_cons (de_idxM 2 (de_var 3)) (da_cons (de_idxM 2 (de_var 4)) da_nil))))
  (dss_cons (ds_asg (de_callB (call_max2 (by rfl)) v_max2 (by rfl) T.b_max (by decide +kernel) (da_cons (de_idxM 2 (de_var 3)) (da_cons (de_idxM 2 (de_var 4)) da_nil))) (dg_sub 2 (de_var 4)))
  (dss_one (ds_asg (de_var 5) (dg_sub 2 (de_var 3)))))))
  (dss_one (ds_ret (de_tupM 2 (by rfl) T.b_tuple)))))
variable {CR : Addr}
theorem c_Runner_init (T : Txt mg tk0) (X2 : XTxt K mg C_SwapError C_NoNet C_NoText C_NoSwap C_NoBack) (X3 : CTxt K mg CR) (F : Fun K "__init__" "Runner.__init__" s_Runner_init f fd) (hM : Mk K CR f) (b : Binds K fd ["self", "row"] [])  : CalI P w K mg base CR 1 1 (g_Runner_init CR) :=
  ⟨f, fd, ["self", "row"], okM 1 0 F sc_Runner_init rfl rfl fun cdv A outer s H E hr => (by
    have hu := hr.units
    exact (dms_cons (dm_of (ds_put 0 X3.cl X3.n_first (de_var 1)))
  (dms_cons (dm_of (ds_put 0 X3.cl X3.n_swaps (de_tup da_nil)))
  (dms_one (dm_of (ds_put 0 X3.cl X3.n_gone (de_tup da_nil))))))), hM, b⟩
theorem c_Runner_row_now (T : Txt mg tk0) (X2 : XTxt K mg C_SwapError C_NoNet C_NoText C_NoSwap C_NoBack) (X3 : CTxt K mg CR) (F : Fun K "row_now" "Runner.row_now" s_Runner_row_now f fd) (hM : Meth K CR "row_now" f) (b : Binds K fd ["self"] []) (c_run : CalD P w K mg base 2 "run" 2 g_run) : CalMO P w K mg base CR 3 "row_now" 0 (g_Runner_row_now CR) :=
  ⟨f, fd, ["self"], okO 0 0 F sc_Runner_row_now rfl rfl fun cdv A outer s H E hr => (by
    have hu := hr.units
    exact (dss_one (ds_ret (de_fn c_run hr (by decide) (by rfl) (da_cons (de_at 0 X3.cl X3.n_swaps) (da_cons (de_at 0 X3.cl X3.n_first) da_nil)) (len_cons (len_cons len_nil)))))), hM, b⟩
theorem c_Runner_swap (T : Txt mg tk0) (X2 : XTxt K mg C_SwapError C_NoNet C_NoText C_NoSwap C_NoBack) (X3 : CTxt K mg CR) (F : Fun K "swap" "Runner.swap" s_Runner_swap f fd) (hM : Meth K CR "swap" f) (b : Binds K fd ["self", "one", "other"] []) (c_Runner_row_now : CalMO P w K mg base CR 3 "row_now" 0 (g_Runner_row_now CR)) (c_is_net : CalD P w K mg base 3 "is_net" 2 g_is_net) : CalM P w K mg base CR 4 "swap" 2 (g_Runner_swap CR) :=
  ⟨f, fd, ["self", "one", "other"], okM 2 1 F sc_Runner_swap rfl rfl fun cdv A outer s H E hr => (by
    have hu := hr.units
    exact (dms_cons (dm_if (dt_not (dt_val (de_fn c_is_net hr (by decide) (by rfl) (da_cons (de_tup (da_cons (de_tup (da_cons (de_var 1) (da_cons (de_var 2) da_nil))) da_nil)) (da_cons (de_callB call_len v_len (by rfl) T.b_len PySem.boot_len (da_cons (de_at 0 X3.cl X3.n_first) da_nil)) da_nil)) (len_cons (len_cons len_nil))))) (dms_one (dm_raise (by rfl) (takes_of rfl rfl rfl rfl) X2.f_NoSwap (by rfl))) dms_nil)
  (dms_cons (dm_of (ds_set 3 sc_Runner_swap.nd (de_ob 0 (de_meth 0 X3.cl c_Runner_row_now hr (by decide)))))
  (dms_cons (dm_of (ds_put 0 X3.cl X3.n_swaps (de_op op_addA v_add (de_at 0 X3.cl X3.n_swaps) (de_tup (da_cons (de_tup (da_cons (de_var 1) (da_cons (de_var 2) da_nil))) da_nil)))))
  (dms_cons (dm_of (ds_put 0 X3.cl X3.n_gone (de_tup da_nil)))
  (dms_one (dm_ret (de_cmp (op_neD hu) v_ne (de_ob 0 (de_meth 0 X3.cl c_Runner_row_now hr (by decide))) (de_var 3) (nomark _))))))))), hM, b⟩
theorem c_Runner_net (T : Txt mg tk0) (X2 : XTxt K mg C_SwapError C_NoNet C_NoText C_NoSwap C_NoBack) (X3 : CTxt K mg CR) (F : Fun K "net" "Runner.net" s_Runner_net f fd) (hM : Meth K CR "net" f) (b : Binds K fd ["self"] [])  : CalMO P w K mg base CR 1 "net" 0 (g_Runner_net CR) :=
  ⟨f, fd, ["self"], okO 0 0 F sc_Runner_net rfl rfl fun cdv A outer s H E hr => (by
    have hu := hr.units
    exact (dss_one (ds_ret (de_at 0 X3.cl X3.n_swaps)))), hM, b⟩
theorem c_Runner_idle (T : Txt mg tk0) (X2 : XTxt K mg C_SwapError C_NoNet C_NoText C_NoSwap C_NoBack) (X3 : CTxt K mg CR) (F : Fun K "idle" "Runner.idle" s_Runner_idle f fd) (hM : Meth K CR "idle" f) (b : Binds K fd ["self"] []) (c_run : CalD P w K mg base 2 "run" 2 g_run) : CalMO P w K mg base CR 3 "idle" 0 (g_Runner_idle CR) :=
  ⟨f, fd, ["self"], okO 0 2 F sc_Runner_idle rfl rfl fun cdv A outer s H E hr => (by
    have hu := hr.units
    exact (dss_cons (ds_setL 1 sc_Runner_idle.nd (dl_lst da_nil))
  (dss_cons (ds_for PassesOwn.never (by rfl) (di_range1 (da_cons (de_callB call_len v_len (by rfl) T.b_len PySem.boot_len (da_cons (de_at 0 X3.cl X3.n_swaps) da_nil)) da_nil) (by rfl) T.b_range) (dg_name 2 sc_Runner_idle.nd) (dss_one (ds_if (dt_cmp (op_eqD hu) v_eq (de_fn c_run hr (by decide) (by rfl) (da_cons (de_sl (de_at 0 X3.cl X3.n_swaps) do_no (do_so (de_var 2))) (da_cons (de_at 0 X3.cl X3.n_first) da_nil)) (len_cons (len_cons len_nil))) (de_fn c_run hr (by decide) (by rfl) (da_cons (de_sl (de_at 0 X3.cl X3.n_swaps) do_no (do_so (de_op op_addA v_add (de_var 2) de_int))) (da_cons (de_at 0 X3.cl X3.n_first) da_nil)) (len_cons (len_cons len_nil))) (nomark _)) (dss_one (ds_app 1 (de_var 2))) dss_nil)))
  (dss_one (ds_ret (de_tupM 1 (by rfl) T.b_tuple)))))), hM, b⟩
theorem c_Runner_is_done (T : Txt mg tk0) (X2 : XTxt K mg C_SwapError C_NoNet C_NoText C_NoSwap C_NoBack) (X3 : CTxt K mg CR) (F : Fun K "is_done" "Runner.is_done" s_Runner_is_done f fd) (hM : Meth K CR "is_done" f) (b : Binds K fd ["self"] []) (c_Runner_row_now : CalMO P w K mg base CR 3 "row_now" 0 (g_Runner_row_now CR)) : CalMO P w K mg base CR 4 "is_done" 0 (g_Runner_is_done CR) :=
  ⟨f, fd, ["self"], okO 0 0 F sc_Runner_is_done rfl rfl fun cdv A outer s H E hr => (by
    have hu := hr.units
    exact (dss_one (ds_ret (de_cmp (op_eqD hu) v_eq ((dl_callTy call_list_of v_list (by rfl) T.b_list boot_list (da_cons (de_meth 0 X3.cl c_Runner_row_now hr (by decide)) da_nil))).de ((dl_callB cr_sortedD v_sorted (by rfl) T.b_sorted (by decide +kernel) (da_cons (de_meth 0 X3.cl c_Runner_row_now hr (by decide)) da_nil))).de (nomark _))))), hM, b⟩
theorem c_Runner_back (T : Txt mg tk0) (X2 : XTxt K mg C_SwapError C_NoNet C_NoText C_NoSwap C_NoBack) (X3 : CTxt K mg CR) (F : Fun K "back" "Runner.back" s_Runner_back f fd) (hM : Meth K CR "back" f) (b : Binds K fd ["self"] [])  : CalM P w K mg base CR 1 "back" 0 (g_Runner_back CR) :=
  ⟨f, fd, ["self"], okM 0 1 F sc_Runner_back rfl rfl fun cdv A outer s H E hr => (by
    have hu := hr.units
    exact (dms_cons (dm_if (dt_cmp (op_eqD hu) v_eq (de_at 0 X3.cl X3.n_swaps) (de_tup da_nil) (nomark _)) (dms_one (dm_raise (by rfl) (takes_of rfl rfl rfl rfl) X2.f_NoBack (by rfl))) dms_nil)
  (dms_cons (dm_of (ds_set 1 sc_Runner_back.nd (de_ix (de_at 0 X3.cl X3.n_swaps) (de_un un_neg v_neg de_int))))
  (dms_cons (dm_of (ds_put 0 X3.cl X3.n_swaps (de_sl (de_at 0 X3.cl X3.n_swaps) do_no (do_so (de_un un_neg v_neg de_int)))))
  (dms_cons (dm_of (ds_put 0 X3.cl X3.n_gone (de_op op_addA v_add (de_at 0 X3.cl X3.n_gone) (de_tup (da_cons (de_var 1) da_nil)))))
  (dms_one (dm_ret (de_var 1)))))))), hM, b⟩
theorem c_Runner_forth (T : Txt mg tk0) (X2 : XTxt K mg C_SwapError C_NoNet C_NoText C_NoSwap C_NoBack) (X3 : CTxt K mg CR) (F : Fun K "forth" "Runner.forth" s_Runner_forth f fd) (hM : Meth K CR "forth" f) (b : Binds K fd ["self"] [])  : CalM P w K mg base CR 1 "forth" 0 (g_Runner_forth CR) :=
  ⟨f, fd, ["self"], okM 0 1 F sc_Runner_forth rfl rfl fun cdv A outer s H E hr => (by
    have hu := hr.units
    exact (dms_cons (dm_if (dt_cmp (op_eqD hu) v_eq (de_at 0 X3.cl X3.n_gone) (de_tup da_nil) (nomark _)) (dms_one (dm_raise (by rfl) (takes_of rfl rfl rfl rfl) X2.f_NoBack (by rfl))) dms_nil)
  (dms_cons (dm_of (ds_set 1 sc_Runner_forth.nd (de_ix (de_at 0 X3.cl X3.n_gone) (de_un un_neg v_neg de_int))))
  (dms_cons (dm_of (ds_put 0 X3.cl X3.n_gone (de_sl (de_at 0 X3.cl X3.n_gone) do_no (do_so (de_un un_neg v_neg de_int)))))
  (dms_cons (dm_of (ds_put 0 X3.cl X3.n_swaps (de_op op_addA v_add (de_at 0 X3.cl X3.n_swaps) (de_tup (da_cons (de_var 1) da_nil)))))
  (dms_one (dm_ret (de_var 1)))))))), hM, b⟩
theorem c_Runner_tally (T : Txt mg tk0) (X2 : XTxt K mg C_SwapError C_NoNet C_NoText C_NoSwap C_NoBack) (X3 : CTxt K mg CR) (F : Fun K "tally" "Runner.tally" s_Runner_tally f fd) (hM : Meth K CR "tally" f) (b : Binds K fd ["self"] [])  : CalMO P w K mg base CR 1 "tally" 0 (g_Runner_tally CR) :=
  ⟨f, fd, ["self"], okO 0 0 F sc_Runner_tally rfl rfl fun cdv A outer s H E hr => (by
    have hu := hr.units
    exact (dss_one (ds_ret (de_tup (da_cons (de_callB call_len v_len (by rfl) T.b_len PySem.boot_len (da_cons (de_at 0 X3.cl X3.n_swaps) da_nil)) (da_cons (de_callB call_len v_len (by rfl) T.b_len PySem.boot_len (da_cons (de_at 0 X3.cl X3.n_gone) da_nil)) da_nil)))))), hM, b⟩
theorem c_law_deed (T : Txt mg tk0) (X2 : XTxt K mg C_SwapError C_NoNet C_NoText C_NoSwap C_NoBack) (X3 : CTxt K mg CR) (F : Fun K "_law_deed" "_law_deed" s_law_deed f fd) (hM : mg "_law_deed" = some (.ref f)) (b : Binds K fd ["_law_runner", "_law_word", "_law_one", "_law_other"] []) (c_Runner_forth : CalM P w K mg base CR 1 "forth" 0 (g_Runner_forth CR)) (c_Runner_swap : CalM P w K mg base CR 4 "swap" 2 (g_Runner_swap CR)) (c_Runner_back : CalM P w K mg base CR 1 "back" 0 (g_Runner_back CR)) : CalMF P w K mg base CR 5 "_law_deed" 3 (g_law_deed CR) :=
  ⟨f, fd, ["_law_runner", "_law_word", "_law_one", "_law_other"], okF 3 1 F sc_law_deed rfl rfl fun cdv A outer s H E hr => (by
    have hu := hr.units
    exact (dms_one (dm_tryA2 4 (by decide +kernel) sc_law_deed.nd rfl rfl ⟨rfl, by decide, .inl X2.g_SwapError⟩ (fun W pn xe tk => (dms_cons (dm_if (dt_cmp (op_eqD hu) v_eq (de_var 1) de_str (nomark _)) (dms_one (dm_retX 0 tk X3.cl c_Runner_swap hr (by decide) (da_cons (de_var 2) (da_cons (de_var 3) da_nil)) (len_cons (len_cons len_nil)))) dms_nil)
  (dms_cons (dm_if (dt_cmp (op_eqD hu) v_eq (de_var 1) de_str (nomark _)) (dms_one (dm_retX0 0 tk X3.cl c_Runner_back hr (by decide))) dms_nil)
  (dms_one (dm_retX0 0 tk X3.cl c_Runner_forth hr (by decide)))))) (fun C a oe pn g hz hf => by
      have z := g.symm.trans X2.g_NoSwap
      cases z
      exact (dms_cons (dm_if (dt_val (de_isE2 4 X2.i_NoSwap hz hf (by rfl) T.b_isinstance (pe_glob (by rfl) X2.g_NoNet (v := .ref _) rfl) (fun _ _ _ h => h) (pe_glob (by rfl) X2.g_NoText (v := .ref _) rfl) (fun _ _ _ h => h) (kit_ff X2.k_NoSwap_NoNet X2.k_NoSwap_NoText))) (dms_one (dm_ret de_str)) dms_nil)
  (dms_cons (dm_if (dt_cmp (op_eqD hu) v_eq (de_isE 4 X2.i_NoSwap hz hf (by rfl) T.b_isinstance (pe_glob (by rfl) X2.g_NoSwap (v := .ref _) rfl) (fun _ _ _ h => h) (fun w h => by cases h; rfl) X2.k_NoSwap_NoSwap) (de_isE 4 X2.i_NoSwap hz hf (by rfl) T.b_isinstance (pe_glob (by rfl) X2.g_NoBack (v := .ref _) rfl) (fun _ _ _ h => h) (fun w h => by cases h; rfl) X2.k_NoSwap_NoBack) (nomark _)) (dms_one (dm_ret de_str)) dms_nil)
  (dms_one (dm_ret (de_ix ((dl_lst (da_cons de_str (da_cons de_str da_nil)))).de (de_callTy call_int1 v_int1 (by rfl) T.b_int (by decide +kernel) (da_cons (de_isE 4 X2.i_NoSwap hz hf (by rfl) T.b_isinstance (pe_glob (by rfl) X2.g_NoBack (v := .ref _) rfl) (fun _ _ _ h => h) (fun w h => by cases h; rfl) X2.k_NoSwap_NoBack) da_nil)))))))) (fun C a oe pn g hz hf => by
      have z := g.symm.trans X2.g_NoBack
      cases z
      exact (dms_cons (dm_if (dt_val (de_isE2 4 X2.i_NoBack hz hf (by rfl) T.b_isinstance (pe_glob (by rfl) X2.g_NoNet (v := .ref _) rfl) (fun _ _ _ h => h) (pe_glob (by rfl) X2.g_NoText (v := .ref _) rfl) (fun _ _ _ h => h) (kit_ff X2.k_NoBack_NoNet X2.k_NoBack_NoText))) (dms_one (dm_ret de_str)) dms_nil)
  (dms_cons (dm_if (dt_cmp (op_eqD hu) v_eq (de_isE 4 X2.i_NoBack hz hf (by rfl) T.b_isinstance (pe_glob (by rfl) X2.g_NoSwap (v := .ref _) rfl) (fun _ _ _ h => h) (fun w h => by cases h; rfl) X2.k_NoBack_NoSwap) (de_isE 4 X2.i_NoBack hz hf (by rfl) T.b_isinstance (pe_glob (by rfl) X2.g_NoBack (v := .ref _) rfl) (fun _ _ _ h => h) (fun w h => by cases h; rfl) X2.k_NoBack_NoBack) (nomark _)) (dms_one (dm_ret de_str)) dms_nil)
  (dms_one (dm_ret (de_ix ((dl_lst (da_cons de_str (da_cons de_str da_nil)))).de (de_callTy call_int1 v_int1 (by rfl) T.b_int (by decide +kernel) (da_cons (de_isE 4 X2.i_NoBack hz hf (by rfl) T.b_isinstance (pe_glob (by rfl) X2.g_NoBack (v := .ref _) rfl) (fun _ _ _ h => h) (fun w h => by cases h; rfl) X2.k_NoBack_NoBack) da_nil)))))))) (fun C g => by
      have z := g.symm.trans X2.g_NoSwap
      cases z
      exact X2.m_NoSwap_SwapError) (fun C g => by
      have z := g.symm.trans X2.g_NoBack
      cases z
      exact X2.m_NoBack_SwapError)))), hM, F.kp, b⟩
theorem c_law_as (T : Txt mg tk0) (X2 : XTxt K mg C_SwapError C_NoNet C_NoText C_NoSwap C_NoBack) (X3 : CTxt K mg CR) (F : Fun K "_law_as" "_law_as" s_law_as f fd) (hM : mg "_law_as" = some (.ref f)) (b : Binds K fd ["_law_runner", "_law_row_here", "_law_swaps", "_law_gone"] []) (c_law_run : CalD P w K mg base 1 "_law_run" 2 g_law_run) (c_Runner_is_done : CalMO P w K mg base CR 4 "is_done" 0 (g_Runner_is_done CR)) (c_Runner_row_now : CalMO P w K mg base CR 3 "row_now" 0 (g_Runner_row_now CR)) (c_Runner_net : CalMO P w K mg base CR 1 "net" 0 (g_Runner_net CR)) (c_Runner_tally : CalMO P w K mg base CR 1 "tally" 0 (g_Runner_tally CR)) (c_Runner_idle : CalMO P w K mg base CR 3 "idle" 0 (g_Runner_idle CR)) : CalFO P w K mg base CR 5 "_law_as" 3 (g_law_as CR) :=
  ⟨f, fd, ["_law_runner", "_law_row_here", "_law_swaps", "_law_gone"], okO 3 3 F sc_law_as rfl rfl fun cdv A outer s H E hr => (by
    have hu := hr.units
    exact (dss_cons (ds_set 4 sc_law_as.nd (de_fn c_law_run hr (by decide) (by rfl) (da_cons (de_var 2) (da_cons (de_var 1) da_nil)) (len_cons (len_cons len_nil))))
  (dss_cons (ds_if ((dw_or (dt_cmp (op_neD hu) v_ne (de_meth 0 X3.cl c_Runner_row_now hr (by decide)) (de_var 4) (nomark _)) (dw_or (dt_cmp (op_neD hu) v_ne (de_meth 0 X3.cl c_Runner_net hr (by decide)) (de_callTy call_tuple_of v_tup (by rfl) T.b_tuple boot_tuple (da_cons (de_var 2) da_nil)) (nomark _)) (dw_or1 (dt_cmp (op_neD hu) v_ne (de_meth 0 X3.cl c_Runner_tally hr (by decide)) (de_tup (da_cons (de_callB call_len v_len (by rfl) T.b_len PySem.boot_len (da_cons (de_var 2) da_nil)) (da_cons (de_callB call_len v_len (by rfl) T.b_len PySem.boot_len (da_cons (de_var 3) da_nil)) da_nil))) (nomark _)))))).dt (dss_one (ds_ret de_bl)) dss_nil)
  (dss_cons (ds_set 5 sc_law_as.nd ((dl_lc (by rfl) sc_law_as.nd (di_range1 (da_cons (de_op op_addA v_add (de_callB call_len v_len (by rfl) T.b_len PySem.boot_len (da_cons (de_var 2) da_nil)) de_int) da_nil) (by rfl) T.b_range) (blkOk_by (own := [("_law_k", 6)]) (by kernel_rfl)) (fun _ _ _ _ _ => (dgc_name 6 sc_law_as.nd)) (fun _ _ _ _ _ => dts_nil) (fun _ _ _ _ _ => (de_fn c_law_run hr (by decide) (by rfl) (da_cons (de_sl (de_var 2) do_no (do_so (de_var 6))) (da_cons (de_var 1) da_nil)) (len_cons (len_cons len_nil)))))).de)
  (dss_cons (ds_if (dt_cmp (op_neD hu) v_ne ((dl_callTy call_list_of v_list (by rfl) T.b_list boot_list (da_cons (de_meth 0 X3.cl c_Runner_idle hr (by decide)) da_nil))).de ((dl_lc (by rfl) sc_law_as.nd (di_range1 (da_cons (de_callB call_len v_len (by rfl) T.b_len PySem.boot_len (da_cons (de_var 2) da_nil)) da_nil) (by rfl) T.b_range) (blkOk_by (own := [("_law_k", 6)]) (by kernel_rfl)) (fun _ _ _ _ _ => (dgc_name 6 sc_law_as.nd)) (fun _ _ _ _ _ => (dts_one (dt_cmp (op_eqD hu) v_eq (de_ix (de_var 5) (de_var 6)) (de_ix (de_var 5) (de_op op_addA v_add (de_var 6) de_int)) (nomark _)))) (fun _ _ _ _ _ => (de_var 6)))).de (nomark _)) (dss_one (ds_ret de_bl)) dss_nil)
  (dss_one (ds_ret (de_cmp (op_eqD hu) v_eq (de_meth 0 X3.cl c_Runner_is_done hr (by decide)) (de_cmp (op_eqD hu) v_eq ((dl_callTy call_list_of v_list (by rfl) T.b_list boot_list (da_cons (de_var 4) da_nil))).de ((dl_callB cr_sortedD v_sorted (by rfl) T.b_sorted (by decide +kernel) (da_cons (de_var 4) da_nil))).de (nomark _)) (nomark _))))))))), hM, F.kp, b⟩
theorem law_fn (T : Txt mg tk0) (X2 : XTxt K mg C_SwapError C_NoNet C_NoText C_NoSwap C_NoBack) (X3 : CTxt K mg CR) (F : Fun K "law" "law" s_law f fd) (c_law_mixed : CalD P w K mg base 2 "_law_mixed" 2 g_law_mixed) (c_law_row : CalD P w K mg base 2 "_law_row" 4 g_law_row) (c_Runner_init : CalI P w K mg base CR 1 1 (g_Runner_init CR)) (c_law_drawn : CalD P w K mg base 1 "_law_drawn" 2 g_law_drawn) (c_law_as : CalFO P w K mg base CR 5 "_law_as" 3 (g_law_as CR)) (c_law_deed : CalMF P w K mg base CR 5 "_law_deed" 3 (g_law_deed CR)) (c_law_is_swap : CalD P w K mg base 2 "_law_is_swap" 2 g_law_is_swap) (c_law_run : CalD P w K mg base 1 "_law_run" 2 g_law_run) : FnOk P w K mg base CX0 6 f fd ["_law_script"] (spD K 1 (g_law CR)) :=
  fn_mk 1 13 F sc_law rfl rfl fun cdv A outer s H E hr => by
    have hu := hr.units
    exact (dss_cons (ds_set 1 sc_law.nd (de_fn c_law_mixed hr (by decide) (by rfl) (da_cons (de_var 0) (da_cons de_int da_nil)) (len_cons (len_cons len_nil))))
  (dss_cons (ds_set 2 sc_law.nd (de_op op_addA v_add de_int (de_op op_mod v_mod (de_var 1) de_int)))
  (dss_cons (ds_set 3 sc_law.nd (de_fn c_law_row hr (by decide) (by rfl) (da_cons (de_var 0) (da_cons de_int (da_cons (de_var 2) (da_cons (de_fn c_law_mixed hr (by decide) (by rfl) (da_cons (de_var 0) (da_cons de_int da_nil)) (len_cons (len_cons len_nil))) da_nil)))) (len_cons (len_cons (len_cons (len_cons len_nil))))))
  (dss_cons (ds_makeI 4 sc_law.nd c_Runner_init hr (by decide) (by rfl) X3.g (da_cons (de_var 3) da_nil) (len_cons len_nil))
  (dss_cons (ds_par 5 6 (by rfl) sc_law.nd ((dl_lst da_nil)).de ((dl_lst da_nil)).de)
  (dss_cons (ds_for PassesOwn.never (by rfl) (di_range1 (da_cons (de_op op_addA v_add de_int (de_op op_mod v_mod (de_fn c_law_mixed hr (by decide) (by rfl) (da_cons (de_var 0) (da_cons de_int da_nil)) (len_cons (len_cons len_nil))) de_int)) da_nil) (by rfl) T.b_range) (dg_name 7 sc_law.nd) (dss_cons (ds_set 8 sc_law.nd (de_op op_fdiv v_fdiv (de_fn c_law_drawn hr (by decide) (by rfl) (da_cons (de_fn c_law_mixed hr (by decide) (by rfl) (da_cons (de_var 0) (da_cons de_int da_nil)) (len_cons (len_cons len_nil))) (da_cons (de_var 7) da_nil)) (len_cons (len_cons len_nil))) de_int))
  (dss_cons (ds_if (dt_cmp (op_eqD hu) v_eq (de_op op_mod v_mod (de_var 8) de_int) de_int (nomark _)) (dss_cons (ds_ifM (dem_cmp (op_neD hu) v_ne (dem_fn 4 c_law_deed hr (by decide) (by rfl) (da_cons de_str (da_cons de_int (da_cons de_int da_nil))) (len_cons (len_cons (len_cons len_nil)))) (de_ix (de_op op_addA v_add (de_sl (de_var 5) (do_so (de_un un_neg v_neg de_int)) do_no) ((dl_lst (da_cons de_str da_nil))).de) de_int) (nomark _)) (dss_one (ds_ret de_bl)) dss_nil)
  (dss_one (ds_par 5 6 (by rfl) sc_law.nd (de_sl (de_var 5) do_no (do_so (de_un un_neg v_neg de_int))) (de_op op_addA v_add (de_var 6) (de_sl (de_var 5) (do_so (de_un un_neg v_neg de_int)) do_no))))) (dss_one (ds_if (dt_cmp (op_eqD hu) v_eq (de_op op_mod v_mod (de_var 8) de_int) de_int (nomark _)) (dss_cons (ds_ifM (dem_cmp (op_neD hu) v_ne (dem_fn 4 c_law_deed hr (by decide) (by rfl) (da_cons de_str (da_cons de_int (da_cons de_int da_nil))) (len_cons (len_cons (len_cons len_nil)))) (de_ix (de_op op_addA v_add (de_sl (de_var 6) (do_so (de_un un_neg v_neg de_int)) do_no) ((dl_lst (da_cons de_str da_nil))).de) de_int) (nomark _)) (dss_one (ds_ret de_bl)) dss_nil)
  (dss_one (ds_par 5 6 (by rfl) sc_law.nd (de_op op_addA v_add (de_var 5) (de_sl (de_var 6) (do_so (de_un un_neg v_neg de_int)) do_no)) (de_sl (de_var 6) do_no (do_so (de_un un_neg v_neg de_int)))))) (dss_cons (ds_set 9 sc_law.nd (de_op op_addA v_add ((dl_rep (dl_listRg (by rfl) (by rfl) T.b_list (by rfl) T.b_range (de_var 2)) de_int)).de ((dl_lst (da_cons (de_var 2) (da_cons (de_un un_neg v_neg de_int) (da_cons de_non (da_cons de_str (da_cons de_bl da_nil))))))).de))
  (dss_cons (ds_set 10 sc_law.nd (de_ix (de_var 9) (de_op op_mod v_mod (de_op op_fdiv v_fdiv (de_var 8) de_int) (de_callB call_len v_len (by rfl) T.b_len PySem.boot_len (da_cons (de_var 9) da_nil)))))
  (dss_cons (ds_set 11 sc_law.nd (de_ix (de_var 9) (de_op op_mod v_mod (de_op op_fdiv v_fdiv (de_var 8) de_int) (de_callB call_len v_len (by rfl) T.b_len PySem.boot_len (da_cons (de_var 9) da_nil)))))
  (dss_cons (ds_set 12 sc_law.nd (de_fn c_law_is_swap hr (by decide) (by rfl) (da_cons (de_tup (da_cons (de_var 10) (da_cons (de_var 11) da_nil))) (da_cons (de_var 2) da_nil)) (len_cons (len_cons len_nil))))
  (dss_cons (ds_set 13 sc_law.nd de_str)
  (dss_cons (ds_if (dt_val (de_var 12)) (dss_one (ds_set 13 sc_law.nd (de_cmp (op_neD hu) v_ne (de_fn c_law_run hr (by decide) (by rfl) (da_cons (de_op op_addA v_add (de_var 5) ((dl_lst (da_cons (de_tup (da_cons (de_var 10) (da_cons (de_var 11) da_nil))) da_nil))).de) (da_cons (de_var 3) da_nil)) (len_cons (len_cons len_nil))) (de_fn c_law_run hr (by decide) (by rfl) (da_cons (de_var 5) (da_cons (de_var 3) da_nil)) (len_cons (len_cons len_nil))) (nomark _)))) dss_nil)
  (dss_cons (ds_ifM (dem_cmp (op_neD hu) v_ne (dem_fn 4 c_law_deed hr (by decide) (by rfl) (da_cons de_str (da_cons (de_var 10) (da_cons (de_var 11) da_nil))) (len_cons (len_cons (len_cons len_nil)))) (de_var 13) (nomark _)) (dss_one (ds_ret de_bl)) dss_nil)
  (dss_one (ds_if (dt_val (de_var 12)) (dss_one (ds_par 5 6 (by rfl) sc_law.nd (de_op op_addA v_add (de_var 5) ((dl_lst (da_cons (de_tup (da_cons (de_var 10) (da_cons (de_var 11) da_nil))) da_nil))).de) ((dl_lst da_nil)).de)) dss_nil))))))))))))
  (dss_one (ds_if (dt_not (dt_val (de_ob 4 (de_fnO 4 c_law_as hr (by decide) (by rfl) (da_cons (de_var 3) (da_cons (de_var 5) (da_cons (de_var 6) da_nil))) (len_cons (len_cons (len_cons len_nil))))))) (dss_one (ds_ret de_bl)) dss_nil)))))
  (dss_one (ds_ret de_bl))))))))
end
def spLaw (K : PySem.W.Frag) : Sp := fun vs H Q E => ∀ CR : Addr, spD K 1 (g_law CR) vs H Q E
theorem all_mk {l : PySem.W.OpenLaw} {w : World} {K : PySem.W.Frag} {h : Heap} {mg : Str → Option Value} {fa f0 f1 f2 f3 f4 f5 f6 f7 f8 f9 f10 f11 f12 f13 f14 f15 f16 f17 f18 f19 f20 f21 f22 f23 : Addr} (X : K.In h) (G : h.Ns mainGlobals mg) (hfa : mg "law" = some (.ref fa))
    {od0 an0 od1 an1 od2 an2 od3 an3 od4 an4 od5 an5 od6 an6 od7 an7 od8 an8 od9 an9 od10 an10 od11 an11 od12 an12 od13 an13 od14 an14 od15 an15 od16 an16 od17 an17 od18 an18 od19 an19 od20 an20 od21 an21 od22 an22 od23 an23 : Option Addr} {sl0 sl1 sl2 sl3 sl4 sl5 sl6 sl7 sl8 sl9 sl10 sl11 sl12 sl13 sl14 sl15 sl16 sl17 sl18 sl19 sl20 sl21 sl22 sl23 : Array (Option Value)} {oc0 kV0 dc0 pm0 cd0 ct0 oc1 kV1 dc1 pm1 cd1 ct1 oc2 kV2 dc2 pm2 cd2 ct2 oc3 kV3 dc3 pm3 cd3 ct3 oc4 kV4 dc4 pm4 cd4 ct4 oc5 kV5 dc5 pm5 cd5 ct5 oc6 kV6 dc6 pm6 cd6 ct6 oc7 kV7 dc7 pm7 cd7 ct7 oc8 kV8 dc8 pm8 cd8 ct8 oc9 kV9 dc9 pm9 cd9 ct9 oc10 kV10 dc10 pm10 cd10 ct10 oc11 kV11 dc11 pm11 cd11 ct11 oc12 kV12 dc12 pm12 cd12 ct12 oc13 kV13 dc13 pm13 cd13 ct13 oc14 kV14 dc14 pm14 cd14 ct14 oc15 kV15 dc15 pm15 cd15 ct15 oc16 kV16 dc16 pm16 cd16 ct16 oc17 kV17 dc17 pm17 cd17 ct17 oc18 kV18 dc18 pm18 cd18 ct18 oc19 kV19 dc19 pm19 cd19 ct19 oc20 kV20 dc20 pm20 cd20 ct20 oc21 kV21 dc21 pm21 cd21 ct21 oc22 kV22 dc22 pm22 cd22 ct22 oc23 kV23 dc23 pm23 cd23 ct23 : Value}
    {tk0 : Tok}
    {CR C_SwapError C_NoNet C_NoText C_NoSwap C_NoBack : Addr}
    (w0 : PySem.W.nsIn K mainGlobals "Runner" = some (some (.ref CR)))
    (a0 : PySem.W.nsIn K mainGlobals "swapped" = some (some (.ref f0)))
    (l0 : K.lookup f0 = some ⟨oc0, od0, .func (PySem.W.fnOf "swapped" "swapped" (defArgs s_swapped) (defBody s_swapped) (defScope s_swapped) .none kV0 dc0 pm0 an0 cd0 ct0), sl0⟩)
    (q0 : PySem.W.codeIn K cd0 "swapped" = true)
    (k0 : PySem.W.keepIn K (.ref f0) = true)
    (a1 : PySem.W.nsIn K mainGlobals "run" = some (some (.ref f1)))
    (l1 : K.lookup f1 = some ⟨oc1, od1, .func (PySem.W.fnOf "run" "run" (defArgs s_run) (defBody s_run) (defScope s_run) .none kV1 dc1 pm1 an1 cd1 ct1), sl1⟩)
    (q1 : PySem.W.codeIn K cd1 "run" = true)
    (k1 : PySem.W.keepIn K (.ref f1) = true)
    (a2 : PySem.W.nsIn K mainGlobals "is_whole" = some (some (.ref f2)))
    (l2 : K.lookup f2 = some ⟨oc2, od2, .func (PySem.W.fnOf "is_whole" "is_whole" (defArgs s_is_whole) (defBody s_is_whole) (defScope s_is_whole) .none kV2 dc2 pm2 an2 cd2 ct2), sl2⟩)
    (q2 : PySem.W.codeIn K cd2 "is_whole" = true)
    (k2 : PySem.W.keepIn K (.ref f2) = true)
    (a3 : PySem.W.nsIn K mainGlobals "is_swap" = some (some (.ref f3)))
    (l3 : K.lookup f3 = some ⟨oc3, od3, .func (PySem.W.fnOf "is_swap" "is_swap" (defArgs s_is_swap) (defBody s_is_swap) (defScope s_is_swap) .none kV3 dc3 pm3 an3 cd3 ct3), sl3⟩)
    (q3 : PySem.W.codeIn K cd3 "is_swap" = true)
    (k3 : PySem.W.keepIn K (.ref f3) = true)
    (a4 : PySem.W.nsIn K mainGlobals "is_net" = some (some (.ref f4)))
    (l4 : K.lookup f4 = some ⟨oc4, od4, .func (PySem.W.fnOf "is_net" "is_net" (defArgs s_is_net) (defBody s_is_net) (defScope s_is_net) .none kV4 dc4 pm4 an4 cd4 ct4), sl4⟩)
    (q4 : PySem.W.codeIn K cd4 "is_net" = true)
    (k4 : PySem.W.keepIn K (.ref f4) = true)
    (a5 : PySem.W.findIn K (.ref CR) "__init__" = some (some (.ref f5)))
    (i5 : PySem.W.isFn K (.ref f5) = true)
    (l5 : K.lookup f5 = some ⟨oc5, od5, .func (PySem.W.fnOf "__init__" "Runner.__init__" (defArgs s_Runner_init) (defBody s_Runner_init) (defScope s_Runner_init) .none kV5 dc5 pm5 an5 cd5 ct5), sl5⟩)
    (q5 : PySem.W.codeIn K cd5 "Runner.__init__" = true)
    (k5 : PySem.W.keepIn K (.ref f5) = true)
    (a6 : PySem.W.findIn K (.ref CR) "row_now" = some (some (.ref f6)))
    (i6 : PySem.W.isFn K (.ref f6) = true)
    (l6 : K.lookup f6 = some ⟨oc6, od6, .func (PySem.W.fnOf "row_now" "Runner.row_now" (defArgs s_Runner_row_now) (defBody s_Runner_row_now) (defScope s_Runner_row_now) .none kV6 dc6 pm6 an6 cd6 ct6), sl6⟩)
    (q6 : PySem.W.codeIn K cd6 "Runner.row_now" = true)
    (k6 : PySem.W.keepIn K (.ref f6) = true)
    (a7 : PySem.W.findIn K (.ref CR) "swap" = some (some (.ref f7)))
    (i7 : PySem.W.isFn K (.ref f7) = true)
    (l7 : K.lookup f7 = some ⟨oc7, od7, .func (PySem.W.fnOf "swap" "Runner.swap" (defArgs s_Runner_swap) (defBody s_Runner_swap) (defScope s_Runner_swap) .none kV7 dc7 pm7 an7 cd7 ct7), sl7⟩)
    (q7 : PySem.W.codeIn K cd7 "Runner.swap" = true)
    (k7 : PySem.W.keepIn K (.ref f7) = true)
    (a8 : PySem.W.findIn K (.ref CR) "net" = some (some (.ref f8)))
    (i8 : PySem.W.isFn K (.ref f8) = true)
    (l8 : K.lookup f8 = some ⟨oc8, od8, .func (PySem.W.fnOf "net" "Runner.net" (defArgs s_Runner_net) (defBody s_Runner_net) (defScope s_Runner_net) .none kV8 dc8 pm8 an8 cd8 ct8), sl8⟩)
    (q8 : PySem.W.codeIn K cd8 "Runner.net" = true)
    (k8 : PySem.W.keepIn K (.ref f8) = true)
    (a9 : PySem.W.findIn K (.ref CR) "idle" = some (some (.ref f9)))
    (i9 : PySem.W.isFn K (.ref f9) = true)
    (l9 : K.lookup f9 = some ⟨oc9, od9, .func (PySem.W.fnOf "idle" "Runner.idle" (defArgs s_Runner_idle) (defBody s_Runner_idle) (defScope s_Runner_idle) .none kV9 dc9 pm9 an9 cd9 ct9), sl9⟩)
    (q9 : PySem.W.codeIn K cd9 "Runner.idle" = true)
    (k9 : PySem.W.keepIn K (.ref f9) = true)
    (a10 : PySem.W.findIn K (.ref CR) "is_done" = some (some (.ref f10)))
    (i10 : PySem.W.isFn K (.ref f10) = true)
    (l10 : K.lookup f10 = some ⟨oc10, od10, .func (PySem.W.fnOf "is_done" "Runner.is_done" (defArgs s_Runner_is_done) (defBody s_Runner_is_done) (defScope s_Runner_is_done) .none kV10 dc10 pm10 an10 cd10 ct10), sl10⟩)
    (q10 : PySem.W.codeIn K cd10 "Runner.is_done" = true)
    (k10 : PySem.W.keepIn K (.ref f10) = true)
    (a11 : PySem.W.findIn K (.ref CR) "back" = some (some (.ref f11)))
    (i11 : PySem.W.isFn K (.ref f11) = true)
    (l11 : K.lookup f11 = some ⟨oc11, od11, .func (PySem.W.fnOf "back" "Runner.back" (defArgs s_Runner_back) (defBody s_Runner_back) (defScope s_Runner_back) .none kV11 dc11 pm11 an11 cd11 ct11), sl11⟩)
    (q11 : PySem.W.codeIn K cd11 "Runner.back" = true)
    (k11 : PySem.W.keepIn K (.ref f11) = true)
    (a12 : PySem.W.findIn K (.ref CR) "forth" = some (some (.ref f12)))
    (i12 : PySem.W.isFn K (.ref f12) = true)
    (l12 : K.lookup f12 = some ⟨oc12, od12, .func (PySem.W.fnOf "forth" "Runner.forth" (defArgs s_Runner_forth) (defBody s_Runner_forth) (defScope s_Runner_forth) .none kV12 dc12 pm12 an12 cd12 ct12), sl12⟩)
    (q12 : PySem.W.codeIn K cd12 "Runner.forth" = true)
    (k12 : PySem.W.keepIn K (.ref f12) = true)
    (a13 : PySem.W.findIn K (.ref CR) "tally" = some (some (.ref f13)))
    (i13 : PySem.W.isFn K (.ref f13) = true)
    (l13 : K.lookup f13 = some ⟨oc13, od13, .func (PySem.W.fnOf "tally" "Runner.tally" (defArgs s_Runner_tally) (defBody s_Runner_tally) (defScope s_Runner_tally) .none kV13 dc13 pm13 an13 cd13 ct13), sl13⟩)
    (q13 : PySem.W.codeIn K cd13 "Runner.tally" = true)
    (k13 : PySem.W.keepIn K (.ref f13) = true)
    (a14 : PySem.W.nsIn K mainGlobals "_law_cell_at" = some (some (.ref f14)))
    (l14 : K.lookup f14 = some ⟨oc14, od14, .func (PySem.W.fnOf "_law_cell_at" "_law_cell_at" (defArgs s_law_cell_at) (defBody s_law_cell_at) (defScope s_law_cell_at) .none kV14 dc14 pm14 an14 cd14 ct14), sl14⟩)
    (q14 : PySem.W.codeIn K cd14 "_law_cell_at" = true)
    (k14 : PySem.W.keepIn K (.ref f14) = true)
    (a15 : PySem.W.nsIn K mainGlobals "_law_mixed" = some (some (.ref f15)))
    (l15 : K.lookup f15 = some ⟨oc15, od15, .func (PySem.W.fnOf "_law_mixed" "_law_mixed" (defArgs s_law_mixed) (defBody s_law_mixed) (defScope s_law_mixed) .none kV15 dc15 pm15 an15 cd15 ct15), sl15⟩)
    (q15 : PySem.W.codeIn K cd15 "_law_mixed" = true)
    (k15 : PySem.W.keepIn K (.ref f15) = true)
    (a16 : PySem.W.nsIn K mainGlobals "_law_drawn" = some (some (.ref f16)))
    (l16 : K.lookup f16 = some ⟨oc16, od16, .func (PySem.W.fnOf "_law_drawn" "_law_drawn" (defArgs s_law_drawn) (defBody s_law_drawn) (defScope s_law_drawn) .none kV16 dc16 pm16 an16 cd16 ct16), sl16⟩)
    (q16 : PySem.W.codeIn K cd16 "_law_drawn" = true)
    (k16 : PySem.W.keepIn K (.ref f16) = true)
    (a17 : PySem.W.nsIn K mainGlobals "_law_row" = some (some (.ref f17)))
    (l17 : K.lookup f17 = some ⟨oc17, od17, .func (PySem.W.fnOf "_law_row" "_law_row" (defArgs s_law_row) (defBody s_law_row) (defScope s_law_row) .none kV17 dc17 pm17 an17 cd17 ct17), sl17⟩)
    (q17 : PySem.W.codeIn K cd17 "_law_row" = true)
    (k17 : PySem.W.keepIn K (.ref f17) = true)
    (a18 : PySem.W.nsIn K mainGlobals "_law_whole" = some (some (.ref f18)))
    (l18 : K.lookup f18 = some ⟨oc18, od18, .func (PySem.W.fnOf "_law_whole" "_law_whole" (defArgs s_law_whole) (defBody s_law_whole) (defScope s_law_whole) .none kV18 dc18 pm18 an18 cd18 ct18), sl18⟩)
    (q18 : PySem.W.codeIn K cd18 "_law_whole" = true)
    (k18 : PySem.W.keepIn K (.ref f18) = true)
    (a19 : PySem.W.nsIn K mainGlobals "_law_is_swap" = some (some (.ref f19)))
    (l19 : K.lookup f19 = some ⟨oc19, od19, .func (PySem.W.fnOf "_law_is_swap" "_law_is_swap" (defArgs s_law_is_swap) (defBody s_law_is_swap) (defScope s_law_is_swap) .none kV19 dc19 pm19 an19 cd19 ct19), sl19⟩)
    (q19 : PySem.W.codeIn K cd19 "_law_is_swap" = true)
    (k19 : PySem.W.keepIn K (.ref f19) = true)
    (a20 : PySem.W.nsIn K mainGlobals "_law_run" = some (some (.ref f20)))
    (l20 : K.lookup f20 = some ⟨oc20, od20, .func (PySem.W.fnOf "_law_run" "_law_run" (defArgs s_law_run) (defBody s_law_run) (defScope s_law_run) .none kV20 dc20 pm20 an20 cd20 ct20), sl20⟩)
    (q20 : PySem.W.codeIn K cd20 "_law_run" = true)
    (k20 : PySem.W.keepIn K (.ref f20) = true)
    (a21 : PySem.W.nsIn K mainGlobals "_law_deed" = some (some (.ref f21)))
    (l21 : K.lookup f21 = some ⟨oc21, od21, .func (PySem.W.fnOf "_law_deed" "_law_deed" (defArgs s_law_deed) (defBody s_law_deed) (defScope s_law_deed) .none kV21 dc21 pm21 an21 cd21 ct21), sl21⟩)
    (q21 : PySem.W.codeIn K cd21 "_law_deed" = true)
    (k21 : PySem.W.keepIn K (.ref f21) = true)
    (a22 : PySem.W.nsIn K mainGlobals "_law_as" = some (some (.ref f22)))
    (l22 : K.lookup f22 = some ⟨oc22, od22, .func (PySem.W.fnOf "_law_as" "_law_as" (defArgs s_law_as) (defBody s_law_as) (defScope s_law_as) .none kV22 dc22 pm22 an22 cd22 ct22), sl22⟩)
    (q22 : PySem.W.codeIn K cd22 "_law_as" = true)
    (k22 : PySem.W.keepIn K (.ref f22) = true)
    (a23 : PySem.W.nsIn K mainGlobals "law" = some (some (.ref f23)))
    (l23 : K.lookup f23 = some ⟨oc23, od23, .func (PySem.W.fnOf "law" "law" (defArgs s_law) (defBody s_law) (defScope s_law) .none kV23 dc23 pm23 an23 cd23 ct23), sl23⟩)
    (q23 : PySem.W.codeIn K cd23 "law" = true)
    (k23 : PySem.W.keepIn K (.ref f23) = true)
    (z0 : PySem.W.nsIn K mainGlobals "all" = some none)
    (z1 : PySem.W.nsIn K mainGlobals "bool" = some none)
    (z2 : PySem.W.nsIn K mainGlobals "int" = some none)
    (z3 : PySem.W.nsIn K mainGlobals "isinstance" = some none)
    (z4 : PySem.W.nsIn K mainGlobals "len" = some none)
    (z5 : PySem.W.nsIn K mainGlobals "list" = some none)
    (z6 : PySem.W.nsIn K mainGlobals "max" = some none)
    (z7 : PySem.W.nsIn K mainGlobals "min" = some none)
    (z8 : PySem.W.nsIn K mainGlobals "range" = some none)
    (z9 : PySem.W.nsIn K mainGlobals "sorted" = some none)
    (z10 : PySem.W.nsIn K mainGlobals "tuple" = some none)
    (y0 : PySem.W.nsIn K mainGlobals "MOST" = some (some (.int 40 tk0)))
    (gc_SwapError : PySem.W.nsIn K mainGlobals "SwapError" = some (some (.ref C_SwapError)))
    (gc_NoNet : PySem.W.nsIn K mainGlobals "NoNet" = some (some (.ref C_NoNet)))
    (gc_NoText : PySem.W.nsIn K mainGlobals "NoText" = some (some (.ref C_NoText)))
    (gc_NoSwap : PySem.W.nsIn K mainGlobals "NoSwap" = some (some (.ref C_NoSwap)))
    (gc_NoBack : PySem.W.nsIn K mainGlobals "NoBack" = some (some (.ref C_NoBack)))
    (x0_NoSwap : PySem.W.excIn K C_NoSwap [.type "ValueError", .type "Exception", .type "BaseException", .type "object"] "ValueError.__new__" = true)
    (x1_NoSwap : PySem.W.keepIn K (.ref C_NoSwap) = true)
    (x2_NoSwap : PySem.W.subIn K (.ref C_NoSwap) (.type "BaseException") = some true)
    (x3_NoSwap : PySem.W.typeIn K (.ref C_NoSwap) = some (.type "type"))
    (x4_NoSwap : PySem.W.findIn K (.ref C_NoSwap) "__getattribute__" = some (some (.builtin "BaseException.__getattribute__")))
    (x5_NoSwap : PySem.W.findIn K (.ref C_NoSwap) "__getattr__" = some none)
    (x6_NoSwap : PySem.W.hasDictIn K C_NoSwap = true)
    (x7_NoSwap : PySem.W.findIn K (.ref C_NoSwap) "__class__" = some (some (.builtin "object.__class__")))
    (x8_NoSwap : PySem.W.mroIn K C_NoSwap (.type "object") = some true)
    (x0_NoBack : PySem.W.excIn K C_NoBack [.type "ValueError", .type "Exception", .type "BaseException", .type "object"] "ValueError.__new__" = true)
    (x1_NoBack : PySem.W.keepIn K (.ref C_NoBack) = true)
    (x2_NoBack : PySem.W.subIn K (.ref C_NoBack) (.type "BaseException") = some true)
    (x3_NoBack : PySem.W.typeIn K (.ref C_NoBack) = some (.type "type"))
    (x4_NoBack : PySem.W.findIn K (.ref C_NoBack) "__getattribute__" = some (some (.builtin "BaseException.__getattribute__")))
    (x5_NoBack : PySem.W.findIn K (.ref C_NoBack) "__getattr__" = some none)
    (x6_NoBack : PySem.W.hasDictIn K C_NoBack = true)
    (x7_NoBack : PySem.W.findIn K (.ref C_NoBack) "__class__" = some (some (.builtin "object.__class__")))
    (x8_NoBack : PySem.W.mroIn K C_NoBack (.type "object") = some true)
    (x9 : PySem.W.specialIn K (.builtin "object.__class__") "__get__" = some (some (.builtin "getset_descriptor.__get__")))
    (x10 : PySem.W.takesIn K (.builtin "object.__class__") = some true)
    (m_NoSwap_SwapError : PySem.W.exmOne K (.ref C_NoSwap) (.ref C_SwapError) = some true)
    (m_NoBack_SwapError : PySem.W.exmOne K (.ref C_NoBack) (.ref C_SwapError) = some true)
    (k_NoSwap_NoNet : PySem.W.kitOne K (.ref C_NoSwap) (.ref C_NoNet) = some false)
    (k_NoSwap_NoText : PySem.W.kitOne K (.ref C_NoSwap) (.ref C_NoText) = some false)
    (k_NoSwap_NoSwap : PySem.W.kitOne K (.ref C_NoSwap) (.ref C_NoSwap) = some true)
    (k_NoSwap_NoBack : PySem.W.kitOne K (.ref C_NoSwap) (.ref C_NoBack) = some false)
    (k_NoBack_NoNet : PySem.W.kitOne K (.ref C_NoBack) (.ref C_NoNet) = some false)
    (k_NoBack_NoText : PySem.W.kitOne K (.ref C_NoBack) (.ref C_NoText) = some false)
    (k_NoBack_NoSwap : PySem.W.kitOne K (.ref C_NoBack) (.ref C_NoSwap) = some false)
    (k_NoBack_NoBack : PySem.W.kitOne K (.ref C_NoBack) (.ref C_NoBack) = some true)
    (w1 : PySem.W.plainGet K CR Str.empty = true)
    (w2 : PySem.W.hasDictIn K CR = true)
    (w3 : PySem.W.plainOver K CR = true)
    (w4 : PySem.W.findIn K (.ref CR) "__setattr__" = some (some (.builtin "object.__setattr__")))
    (w5 : PySem.W.makesIn K CR = true)
    (w6 : PySem.W.keepIn K (.ref CR) = true)
    (v_first : PySem.W.findIn K (.ref CR) "first" = some none)
    (v_swaps : PySem.W.findIn K (.ref CR) "swaps" = some none)
    (v_gone : PySem.W.findIn K (.ref CR) "gone" = some none) :
    ∃ fd : FuncData, (∀ (s : Shared) (v : Value), BindsTo s fd ⟨[v], []⟩ [("_law_script", v)]) ∧ ∀ base : Heap, K.In base → base.Ns mainGlobals mg → FnOk l.prog w K mg base CX0 6 fa fd ["_law_script"] (spLaw K) := by
  have e := hfa.symm.trans (PySem.W.mg_of X G a23)
  cases e
  have T : Txt mg tk0 := ⟨PySem.W.mg_none_of X G z0, PySem.W.mg_none_of X G z1, PySem.W.mg_none_of X G z2, PySem.W.mg_none_of X G z3, PySem.W.mg_none_of X G z4, PySem.W.mg_none_of X G z5, PySem.W.mg_none_of X G z6, PySem.W.mg_none_of X G z7, PySem.W.mg_none_of X G z8, PySem.W.mg_none_of X G z9, PySem.W.mg_none_of X G z10, PySem.W.mg_of X G y0⟩
  have X2 : XTxt K mg C_SwapError C_NoNet C_NoText C_NoSwap C_NoBack := ⟨PySem.W.mg_of X G gc_SwapError, PySem.W.mg_of X G gc_NoNet, PySem.W.mg_of X G gc_NoText, PySem.W.mg_of X G gc_NoSwap, PySem.W.mg_of X G gc_NoBack, ⟨PySem.W.mg_of X G gc_NoSwap, x0_NoSwap, x1_NoSwap, x2_NoSwap, x3_NoSwap⟩, ⟨x4_NoSwap, x5_NoSwap, x2_NoSwap, x6_NoSwap, x7_NoSwap, x9, x10, x8_NoSwap⟩, ⟨PySem.W.mg_of X G gc_NoBack, x0_NoBack, x1_NoBack, x2_NoBack, x3_NoBack⟩, ⟨x4_NoBack, x5_NoBack, x2_NoBack, x6_NoBack, x7_NoBack, x9, x10, x8_NoBack⟩, m_NoSwap_SwapError, m_NoBack_SwapError, k_NoSwap_NoNet, k_NoSwap_NoText, k_NoSwap_NoSwap, k_NoSwap_NoBack, k_NoBack_NoNet, k_NoBack_NoText, k_NoBack_NoSwap, k_NoBack_NoBack⟩
  have X3 : CTxt K mg CR := ⟨⟨w1, w2, w3, w4⟩, PySem.W.mg_of X G w0, v_first, v_swaps, v_gone⟩
  have F0 := fun_mk (st := s_swapped) l0 q0 k0
  have b0 := F0.binds (ps := ["row", "one", "other"]) fun _ _ _ _ _ _ us hl => match us, hl with | [_, _, _], _ => rfl
  have F1 := fun_mk (st := s_run) l1 q1 k1
  have b1 := F1.binds (ps := ["net", "row"]) fun _ _ _ _ _ _ us hl => match us, hl with | [_, _], _ => rfl
  have F2 := fun_mk (st := s_is_whole) l2 q2 k2
  have b2 := F2.binds (ps := ["thing"]) fun _ _ _ _ _ _ us hl => match us, hl with | [_], _ => rfl
  have F3 := fun_mk (st := s_is_swap) l3 q3 k3
  have b3 := F3.binds (ps := ["thing", "wide"]) fun _ _ _ _ _ _ us hl => match us, hl with | [_, _], _ => rfl
  have F4 := fun_mk (st := s_is_net) l4 q4 k4
  have b4 := F4.binds (ps := ["thing", "wide"]) fun _ _ _ _ _ _ us hl => match us, hl with | [_, _], _ => rfl
  have F5 := fun_mk (st := s_Runner_init) l5 q5 k5
  have b5 := F5.binds (ps := ["self", "row"]) fun _ _ _ _ _ _ us hl => match us, hl with | [_, _], _ => rfl
  have F6 := fun_mk (st := s_Runner_row_now) l6 q6 k6
  have b6 := F6.binds (ps := ["self"]) fun _ _ _ _ _ _ us hl => match us, hl with | [_], _ => rfl
  have F7 := fun_mk (st := s_Runner_swap) l7 q7 k7
  have b7 := F7.binds (ps := ["self", "one", "other"]) fun _ _ _ _ _ _ us hl => match us, hl with | [_, _, _], _ => rfl
  have F8 := fun_mk (st := s_Runner_net) l8 q8 k8
  have b8 := F8.binds (ps := ["self"]) fun _ _ _ _ _ _ us hl => match us, hl with | [_], _ => rfl
  have F9 := fun_mk (st := s_Runner_idle) l9 q9 k9
  have b9 := F9.binds (ps := ["self"]) fun _ _ _ _ _ _ us hl => match us, hl with | [_], _ => rfl
  have F10 := fun_mk (st := s_Runner_is_done) l10 q10 k10
  have b10 := F10.binds (ps := ["self"]) fun _ _ _ _ _ _ us hl => match us, hl with | [_], _ => rfl
  have F11 := fun_mk (st := s_Runner_back) l11 q11 k11
  have b11 := F11.binds (ps := ["self"]) fun _ _ _ _ _ _ us hl => match us, hl with | [_], _ => rfl
  have F12 := fun_mk (st := s_Runner_forth) l12 q12 k12
  have b12 := F12.binds (ps := ["self"]) fun _ _ _ _ _ _ us hl => match us, hl with | [_], _ => rfl
  have F13 := fun_mk (st := s_Runner_tally) l13 q13 k13
  have b13 := F13.binds (ps := ["self"]) fun _ _ _ _ _ _ us hl => match us, hl with | [_], _ => rfl
  have F14 := fun_mk (st := s_law_cell_at) l14 q14 k14
  have b14 := F14.binds (ps := ["_law_script", "_law_k"]) fun _ _ _ _ _ _ us hl => match us, hl with | [_, _], _ => rfl
  have F15 := fun_mk (st := s_law_mixed) l15 q15 k15
  have b15 := F15.binds (ps := ["_law_script", "_law_k"]) fun _ _ _ _ _ _ us hl => match us, hl with | [_, _], _ => rfl
  have F16 := fun_mk (st := s_law_drawn) l16 q16 k16
  have b16 := F16.binds (ps := ["_law_number", "_law_k"]) fun _ _ _ _ _ _ us hl => match us, hl with | [_, _], _ => rfl
  have F17 := fun_mk (st := s_law_row) l17 q17 k17
  have b17 := F17.binds (ps := ["_law_script", "_law_at", "_law_wide", "_law_number"]) fun _ _ _ _ _ _ us hl => match us, hl with | [_, _, _, _], _ => rfl
  have F18 := fun_mk (st := s_law_whole) l18 q18 k18
  have b18 := F18.binds (ps := ["_law_thing"]) fun _ _ _ _ _ _ us hl => match us, hl with | [_], _ => rfl
  have F19 := fun_mk (st := s_law_is_swap) l19 q19 k19
  have b19 := F19.binds (ps := ["_law_thing", "_law_wide"]) fun _ _ _ _ _ _ us hl => match us, hl with | [_, _], _ => rfl
  have F20 := fun_mk (st := s_law_run) l20 q20 k20
  have b20 := F20.binds (ps := ["_law_net", "_law_row_here"]) fun _ _ _ _ _ _ us hl => match us, hl with | [_, _], _ => rfl
  have F21 := fun_mk (st := s_law_deed) l21 q21 k21
  have b21 := F21.binds (ps := ["_law_runner", "_law_word", "_law_one", "_law_other"]) fun _ _ _ _ _ _ us hl => match us, hl with | [_, _, _, _], _ => rfl
  have F22 := fun_mk (st := s_law_as) l22 q22 k22
  have b22 := F22.binds (ps := ["_law_runner", "_law_row_here", "_law_swaps", "_law_gone"]) fun _ _ _ _ _ _ us hl => match us, hl with | [_, _, _, _], _ => rfl
  have F23 := fun_mk (st := s_law) l23 q23 k23
  have b23 := F23.binds (ps := ["_law_script"]) fun _ _ _ _ _ _ us hl => match us, hl with | [_], _ => rfl
  refine ⟨PySem.W.fnOf "law" "law" (defArgs s_law) (defBody s_law) (defScope s_law) .none kV23 dc23 pm23 an23 cd23 ct23, fun s v => .of_eq rfl, fun base _ _ => ?_⟩
  have c_swapped := c_swapped (P := l.prog) (w := w) (base := base) T X2 F0 (PySem.W.mg_of X G a0) b0
  have c_run := c_run (P := l.prog) (w := w) (base := base) T X2 F1 (PySem.W.mg_of X G a1) b1 c_swapped
  have c_is_whole := c_is_whole (P := l.prog) (w := w) (base := base) T X2 F2 (PySem.W.mg_of X G a2) b2
  have c_is_swap := c_is_swap (P := l.prog) (w := w) (base := base) T X2 F3 (PySem.W.mg_of X G a3) b3 c_is_whole
  have c_is_net := c_is_net (P := l.prog) (w := w) (base := base) T X2 F4 (PySem.W.mg_of X G a4) b4 c_is_swap
  have c_Runner_init := c_Runner_init (P := l.prog) (w := w) (base := base) T X2 X3 F5 ⟨w5, a5, i5, w6⟩ b5
  have c_Runner_row_now := c_Runner_row_now (P := l.prog) (w := w) (base := base) T X2 X3 F6 ⟨a6, i6, k6⟩ b6 c_run
  have c_Runner_swap := c_Runner_swap (P := l.prog) (w := w) (base := base) T X2 X3 F7 ⟨a7, i7, k7⟩ b7 c_Runner_row_now c_is_net
  have c_Runner_net := c_Runner_net (P := l.prog) (w := w) (base := base) T X2 X3 F8 ⟨a8, i8, k8⟩ b8
  have c_Runner_idle := c_Runner_idle (P := l.prog) (w := w) (base := base) T X2 X3 F9 ⟨a9, i9, k9⟩ b9 c_run
  have c_Runner_is_done := c_Runner_is_done (P := l.prog) (w := w) (base := base) T X2 X3 F10 ⟨a10, i10, k10⟩ b10 c_Runner_row_now
  have c_Runner_back := c_Runner_back (P := l.prog) (w := w) (base := base) T X2 X3 F11 ⟨a11, i11, k11⟩ b11
  have c_Runner_forth := c_Runner_forth (P := l.prog) (w := w) (base := base) T X2 X3 F12 ⟨a12, i12, k12⟩ b12
  have c_Runner_tally := c_Runner_tally (P := l.prog) (w := w) (base := base) T X2 X3 F13 ⟨a13, i13, k13⟩ b13
  have c_law_cell_at := c_law_cell_at (P := l.prog) (w := w) (base := base) T X2 F14 (PySem.W.mg_of X G a14) b14
  have c_law_mixed := c_law_mixed (P := l.prog) (w := w) (base := base) T X2 F15 (PySem.W.mg_of X G a15) b15 c_law_cell_at
  have c_law_drawn := c_law_drawn (P := l.prog) (w := w) (base := base) T X2 F16 (PySem.W.mg_of X G a16) b16
  have c_law_row := c_law_row (P := l.prog) (w := w) (base := base) T X2 F17 (PySem.W.mg_of X G a17) b17 c_law_cell_at c_law_drawn
  have c_law_whole := c_law_whole (P := l.prog) (w := w) (base := base) T X2 F18 (PySem.W.mg_of X G a18) b18
  have c_law_is_swap := c_law_is_swap (P := l.prog) (w := w) (base := base) T X2 F19 (PySem.W.mg_of X G a19) b19 c_law_whole
  have c_law_run := c_law_run (P := l.prog) (w := w) (base := base) T X2 F20 (PySem.W.mg_of X G a20) b20
  have c_law_deed := c_law_deed (P := l.prog) (w := w) (base := base) T X2 X3 F21 (PySem.W.mg_of X G a21) b21 c_Runner_forth c_Runner_swap c_Runner_back
  have c_law_as := c_law_as (P := l.prog) (w := w) (base := base) T X2 X3 F22 (PySem.W.mg_of X G a22) b22 c_law_run c_Runner_is_done c_Runner_row_now c_Runner_net c_Runner_tally c_Runner_idle
  exact (law_fn T X2 X3 F23 c_law_mixed c_law_row c_Runner_init c_law_drawn c_law_as c_law_deed c_law_is_swap c_law_run).imp fun vs H Q E h => h CR
end Lw
open PySem PySem.W PyProof.Rows
set_option maxHeartbeats 0 in
theorem PySem.Challenge.cw_swapyard_k70_whole_runners_holds : PySem.Challenge.rw_swapyard_k70_whole_runners.Holds := by
  w_on; o_law; k_head; (case hw => w_witness2)
  k_fill
  refine L2.walk_of (l := PySem.Challenge.rw_swapyard_k70_whole_runners) (n := 63) (k := 6) (x := "_law_script") (CX := fun _ => L2.CX0) (sp := fun w => Lw.spLaw _) rfl (by decide) rfl ⟨rfl, by decide, by decide⟩ (fun w h Y => PySem.W.kIn_of Y) ?F (fun _ _ a ns hl _ hS => fun CR => Dv.law_sp (Lw.law_true CR) hS hl) (fun _ _ _ _ _ h => h)
  case F =>
    intro w mg fa h KX G hmg
    refine' Lw.all_mk KX G hmg ?w0 ?a0 ?l0 ?q0 ?k0 ?a1 ?l1 ?q1 ?k1 ?a2 ?l2 ?q2 ?k2 ?a3 ?l3 ?q3 ?k3 ?a4 ?l4 ?q4 ?k4 ?a5 ?i5 ?l5 ?q5 ?k5 ?a6 ?i6 ?l6 ?q6 ?k6 ?a7 ?i7 ?l7 ?q7 ?k7 ?a8 ?i8 ?l8 ?q8 ?k8 ?a9 ?i9 ?l9 ?q9 ?k9 ?a10 ?i10 ?l10 ?q10 ?k10 ?a11 ?i11 ?l11 ?q11 ?k11 ?a12 ?i12 ?l12 ?q12 ?k12 ?a13 ?i13 ?l13 ?q13 ?k13 ?a14 ?l14 ?q14 ?k14 ?a15 ?l15 ?q15 ?k15 ?a16 ?l16 ?q16 ?k16 ?a17 ?l17 ?q17 ?k17 ?a18 ?l18 ?q18 ?k18 ?a19 ?l19 ?q19 ?k19 ?a20 ?l20 ?q20 ?k20 ?a21 ?l21 ?q21 ?k21 ?a22 ?l22 ?q22 ?k22 ?a23 ?l23 ?q23 ?k23 ?z0 ?z1 ?z2 ?z3 ?z4 ?z5 ?z6 ?z7 ?z8 ?z9 ?z10 ?y0 ?gc_SwapError ?gc_NoNet ?gc_NoText ?gc_NoSwap ?gc_NoBack ?x0_NoSwap ?x1_NoSwap ?x2_NoSwap ?x3_NoSwap ?x4_NoSwap ?x5_NoSwap ?x6_NoSwap ?x7_NoSwap ?x8_NoSwap ?x0_NoBack ?x1_NoBack ?x2_NoBack ?x3_NoBack ?x4_NoBack ?x5_NoBack ?x6_NoBack ?x7_NoBack ?x8_NoBack ?x9 ?x10 ?m_NoSwap_SwapError ?m_NoBack_SwapError ?k_NoSwap_NoNet ?k_NoSwap_NoText ?k_NoSwap_NoSwap ?k_NoSwap_NoBack ?k_NoBack_NoNet ?k_NoBack_NoText ?k_NoBack_NoSwap ?k_NoBack_NoBack ?w1 ?w2 ?w3 ?w4 ?w5 ?w6 ?v_first ?v_swaps ?v_gone
    (case w0 => k_is)
    (case a0 => k_is)
    (case l0 => k_is)
    (case q0 => k_is)
    (case k0 => k_is)
    (case a1 => k_is)
    (case l1 => k_is)
    (case q1 => k_is)
    (case k1 => k_is)
    (case a2 => k_is)
    (case l2 => k_is)
    (case q2 => k_is)
    (case k2 => k_is)
    (case a3 => k_is)
    (case l3 => k_is)
    (case q3 => k_is)
    (case k3 => k_is)
    (case a4 => k_is)
    (case l4 => k_is)
    (case q4 => k_is)
    (case k4 => k_is)
    (case a5 => k_is)
    (case i5 => k_is)
    (case l5 => k_is)
    (case q5 => k_is)
    (case k5 => k_is)
    (case a6 => k_is)
    (case i6 => k_is)
    (case l6 => k_is)
    (case q6 => k_is)
    (case k6 => k_is)
    (case a7 => k_is)
    (case i7 => k_is)
    (case l7 => k_is)
    (case q7 => k_is)
    (case k7 => k_is)
    (case a8 => k_is)
    (case i8 => k_is)
    (case l8 => k_is)
    (case q8 => k_is)
    (case k8 => k_is)
    (case a9 => k_is)
    (case i9 => k_is)
    (case l9 => k_is)
    (case q9 => k_is)
    (case k9 => k_is)
    (case a10 => k_is)
    (case i10 => k_is)
    (case l10 => k_is)
    (case q10 => k_is)
    (case k10 => k_is)
    (case a11 => k_is)
    (case i11 => k_is)
    (case l11 => k_is)
    (case q11 => k_is)
    (case k11 => k_is)
    (case a12 => k_is)
    (case i12 => k_is)
    (case l12 => k_is)
    (case q12 => k_is)
    (case k12 => k_is)
    (case a13 => k_is)
    (case i13 => k_is)
    (case l13 => k_is)
    (case q13 => k_is)
    (case k13 => k_is)
    (case a14 => k_is)
    (case l14 => k_is)
    (case q14 => k_is)
    (case k14 => k_is)
    (case a15 => k_is)
    (case l15 => k_is)
    (case q15 => k_is)
    (case k15 => k_is)
    (case a16 => k_is)
    (case l16 => k_is)
    (case q16 => k_is)
    (case k16 => k_is)
    (case a17 => k_is)
    (case l17 => k_is)
    (case q17 => k_is)
    (case k17 => k_is)
    (case a18 => k_is)
    (case l18 => k_is)
    (case q18 => k_is)
    (case k18 => k_is)
    (case a19 => k_is)
    (case l19 => k_is)
    (case q19 => k_is)
    (case k19 => k_is)
    (case a20 => k_is)
    (case l20 => k_is)
    (case q20 => k_is)
    (case k20 => k_is)
    (case a21 => k_is)
    (case l21 => k_is)
    (case q21 => k_is)
    (case k21 => k_is)
    (case a22 => k_is)
    (case l22 => k_is)
    (case q22 => k_is)
    (case k22 => k_is)
    (case a23 => k_is)
    (case l23 => k_is)
    (case q23 => k_is)
    (case k23 => k_is)
    (case z0 => k_is)
    (case z1 => k_is)
    (case z2 => k_is)
    (case z3 => k_is)
    (case z4 => k_is)
    (case z5 => k_is)
    (case z6 => k_is)
    (case z7 => k_is)
    (case z8 => k_is)
    (case z9 => k_is)
    (case z10 => k_is)
    (case y0 => k_is)
    (case gc_SwapError => k_is)
    (case gc_NoNet => k_is)
    (case gc_NoText => k_is)
    (case gc_NoSwap => k_is)
    (case gc_NoBack => k_is)
    (case x0_NoSwap => first | k_exc | k_is)
    (case x1_NoSwap => k_is)
    (case x2_NoSwap => k_is)
    (case x3_NoSwap => k_is)
    (case x4_NoSwap => k_is)
    (case x5_NoSwap => k_is)
    (case x6_NoSwap => k_is)
    (case x7_NoSwap => k_is)
    (case x8_NoSwap => k_is)
    (case x0_NoBack => first | k_exc | k_is)
    (case x1_NoBack => k_is)
    (case x2_NoBack => k_is)
    (case x3_NoBack => k_is)
    (case x4_NoBack => k_is)
    (case x5_NoBack => k_is)
    (case x6_NoBack => k_is)
    (case x7_NoBack => k_is)
    (case x8_NoBack => k_is)
    (case x9 => k_is)
    (case x10 => k_is)
    (case m_NoSwap_SwapError => kts_exm)
    (case m_NoBack_SwapError => kts_exm)
    (case k_NoSwap_NoNet => kit_is)
    (case k_NoSwap_NoText => kit_is)
    (case k_NoSwap_NoSwap => kit_is)
    (case k_NoSwap_NoBack => kit_is)
    (case k_NoBack_NoNet => kit_is)
    (case k_NoBack_NoText => kit_is)
    (case k_NoBack_NoSwap => kit_is)
    (case k_NoBack_NoBack => kit_is)
    (case w1 => k_is)
    (case w2 => k_is)
    (case w3 => k_is)
    (case w4 => k_is)
    (case w5 => k_is)
    (case w6 => k_is)
    (case v_first => k_is)
    (case v_swaps => k_is)
    (case v_gone => k_is)
