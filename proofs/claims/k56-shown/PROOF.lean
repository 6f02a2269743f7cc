import PyProof.Rows.All
import Wide.All
import OpenK.AllK
import Wide.FinOn
import HandS.ForMost
import HandS.Wide
import HandS.Deep
import HandS.IsInst
import HandS.TupAny
import HandS.TupMul
import HandS.Zip
import HandS.Rev
import HandS.RevRange
import HandS.Style
import HandS.Conv
import HandS.Flow
import HandS.SortInts
import KE.KTupSum
import PySem.Challenge.RW_windowfloor_k56_shown
set_option Elab.async false
set_option linter.all false
set_option maxRecDepth 100000
set_option maxHeartbeats 4000000
/-! A layer over L2 (HandS): values as trees, a store of own lists and dicts; readings without addresses. -/
namespace L3
open PySem PySem.Spec PyProof.Rows L2

/-! ### data, stores -/
inductive D where
  | p (d : PyData)
  | loc (n : Nat)
inductive O3 where
  | lst (ds : List PyData)
  | dic (kvs : List (List Key × PyData))
structure W3 where
  al : List Addr
  h : Hp
  pn : List (Addr × HO)
abbrev E3 := List (Option D)
abbrev S3 := List (Option O3)
def at3 : E3 → Nat → Option D
  | [], _ => none
  | x :: _, 0 => x
  | _ :: r, n + 1 => at3 r n
def set3 : E3 → Nat → D → E3
  | [], _, _ => []
  | _ :: r, 0, d => some d :: r
  | x :: r, n + 1, d => x :: set3 r n d
theorem at3_get : ∀ (env : E3) (i : Nat), at3 env i = (env[i]?).join
  | [], _ => rfl
  | x :: _, 0 => rfl
  | _ :: r, n + 1 => by
    rw [List.getElem?_cons_succ]
    exact at3_get r n
theorem set3_length : ∀ (env : E3) (i : Nat) (d : D), (set3 env i d).length = env.length
  | [], _, _ => rfl
  | _ :: _, 0, _ => rfl
  | _ :: r, n + 1, d => congrArg (· + 1) (set3_length r n d)
theorem at3_set : ∀ (env : E3) (i j : Nat) (d : D), at3 (set3 env i d) j = if j = i ∧ i < env.length then some d else at3 env j
  | [], i, j, d => by simp [set3, at3]
  | x :: r, 0, 0, d => by simp [set3, at3]
  | x :: r, 0, j + 1, d => by simp [set3, at3]
  | x :: r, i + 1, 0, d => by simp [set3, at3]
  | x :: r, i + 1, j + 1, d => by
    show at3 (set3 r i d) j = _
    rw [at3_set r i j d]
    simp only [List.length_cons, Nat.add_right_cancel_iff, Nat.add_lt_add_iff_right]
    rfl

/-! ### what a value stands for -/
section
variable (K : PySem.W.Frag)
def RepD (w : W3) (v : V) : D → Prop
  | .p d => Dp K w.h v d
  | .loc n => ∃ a, w.al[n]? = some a ∧ v = .ref a
def RepDs (w : W3) : List V → List D → Prop
  | [], [] => True
  | v :: vs, d :: ds => RepD K w v d ∧ RepDs w vs ds
  | _, _ => False
def RepO (w : W3) (u : HO) : O3 → Prop
  | .lst ds => ∃ xs, u = .lst xs ∧ DpAll K w.h xs ds ∧ ds.length ≤ sizeLine
  | .dic kvs => ∃ kxs, u = .dT kxs ∧ Paired (fun (p : List Key × V) (q : List Key × PyData) => p.1 = q.1 ∧ Dp K w.h p.2 q.2) kxs kvs
def SzO : HO → Prop
  | .lst xs => xs.length ≤ sizeLine
  | .tup xs => xs.length ≤ sizeLine
  | .frz _ (.lst xs) => xs.length ≤ sizeLine
  | .frz _ (.tup xs) => xs.length ≤ sizeLine
  | .frz _ _ => False
  | _ => True
structure Ex0 (w w' : W3) : Prop where
  al : ∃ t, w'.al = w.al ++ t
  h : Same w.h w'.h
structure Ex3 (w w' : W3) : Prop extends Ex0 w w' where
  pn : w'.pn = w.pn
structure Rel3 (w : W3) (H : Hp) (S : List (Option O3)) : Prop where
  sub : Same w.h H
  sz : ∀ a u, w.h a = some u → SzO u
  len : w.al.length = S.length
  live : ∀ (n : Nat) (a : Addr) (o : O3), w.al[n]? = some a → S[n]? = some (some o) → w.h a = none ∧ ∃ u, H a = some u ∧ RepO K w u o
  dead : ∀ (n : Nat) (a : Addr), w.al[n]? = some a → S[n]? = some none → ∃ u, w.h a = some u
  nd : w.al.Nodup
  pin : ∀ (a : Addr) (u : HO), (a, u) ∈ w.pn → H a = some u ∧ w.h a = none ∧ a ∉ w.al
  pnd : (w.pn.map (·.1)).Nodup
def EnvR (w : W3) (σ : L2.St) (env : E3) : Prop := σ.length = env.length ∧ ∀ i d, at3 env i = some d → ∃ v, σ[i]? = some (some v) ∧ RepD K w v d
end

theorem Same.sqT {K : PySem.W.Frag} {H H' : Hp} {a : Addr} {xs : List V} (e : Same H H') (h : SqT K H a xs) : SqT K H' a xs := by
  rcases h with (h | ⟨o, h⟩) | h
  · exact .inl (.inl (e _ _ h))
  · exact .inl (.inr ⟨o, e _ _ h⟩)
  · exact .inr h
mutual
theorem dp_mono {K : PySem.W.Frag} {H H' : Hp} (e : Same H H') : ∀ (d : PyData) (v : V), Dp K H v d → Dp K H' v d
  | .none, _, h => by cases h; exact .non
  | .bool b, _, h => by cases h; exact .bl b
  | .int i, _, h => by cases h; exact .int i
  | .str x, _, h => by cases h; exact .str x
  | .list ds, _, h => by
    cases h with
    | lst hs ha => exact .lst (L2.Same.seq e hs) (dpAll_mono e ds _ ha)
  | .tuple ds, _, h => by
    cases h with
    | tup hs ha => exact .tup (Same.sqT e hs) (dpAll_mono e ds _ ha)
  | .dict _, _, h => by cases h
theorem dpAll_mono {K : PySem.W.Frag} {H H' : Hp} (e : Same H H') : ∀ (ds : List PyData) (vs : List V), DpAll K H vs ds → DpAll K H' vs ds
  | [], _, h => by cases h; exact .nil
  | d :: ds, _, h => by
    cases h with
    | cons h1 h2 => exact .cons (dp_mono e d _ h1) (dpAll_mono e ds _ h2)
end
section
variable {K : PySem.W.Frag} {w w' w'' : W3} {H : Hp} {S : S3} {σ : L2.St} {env : E3} {v : V} {d : D}
theorem DpAll.length : ∀ {vs : List V} {ds : List PyData} {h : Hp}, DpAll K h vs ds → vs.length = ds.length
  | _, _, _, .nil => rfl
  | _, _, _, .cons _ t => congrArg (· + 1) (DpAll.length t)
theorem DpAll.get : ∀ {vs : List V} {ds : List PyData} {h : Hp} {i : Nat} {x : PyData}, DpAll K h vs ds → ds[i]? = some x → ∃ v, vs[i]? = some v ∧ Dp K h v x
  | _, _, _, _, _, .nil, e => by simp at e
  | _, _, _, 0, _, .cons r _, e => by
    simp at e
    subst e
    exact ⟨_, rfl, r⟩
  | _, _, _, i + 1, x, .cons _ t, e => by
    obtain ⟨v, h1, h2⟩ := DpAll.get (i := i) (x := x) t (by simpa using e)
    exact ⟨v, by simpa using h1, h2⟩
theorem DpAll.getV : ∀ {vs : List V} {ds : List PyData} {h : Hp} {i : Nat} {v : V}, DpAll K h vs ds → vs[i]? = some v → ∃ x, ds[i]? = some x ∧ Dp K h v x
  | _, _, _, _, _, .nil, e => by simp at e
  | _, _, _, 0, _, .cons r _, e => by
    simp at e
    subst e
    exact ⟨_, rfl, r⟩
  | _, _, _, i + 1, v, .cons _ t, e => by
    obtain ⟨x, h1, h2⟩ := DpAll.getV (i := i) (v := v) t (by simpa using e)
    exact ⟨x, by simpa using h1, h2⟩
theorem DpAll.append : ∀ {vs us : List V} {ds es : List PyData} {h : Hp}, DpAll K h vs ds → DpAll K h us es → DpAll K h (vs ++ us) (ds ++ es)
  | _, _, _, _, _, .nil, s => s
  | _, _, _, _, _, .cons r t, s => .cons r (DpAll.append t s)
theorem DpAll.take : ∀ {vs : List V} {ds : List PyData} {h : Hp} (n : Nat), DpAll K h vs ds → DpAll K h (vs.take n) (ds.take n)
  | _, _, _, 0, _ => .nil
  | _, _, _, _ + 1, .nil => .nil
  | _, _, _, n + 1, .cons r t => .cons r (DpAll.take n t)
theorem DpAll.drop : ∀ {vs : List V} {ds : List PyData} {h : Hp} (n : Nat), DpAll K h vs ds → DpAll K h (vs.drop n) (ds.drop n)
  | _, _, _, 0, r => r
  | _, _, _, _ + 1, .nil => .nil
  | _, _, _, n + 1, .cons _ t => DpAll.drop n t
theorem DpAll.set {x : PyData} {v : V} {h : Hp} (r : Dp K h v x) : ∀ {vs : List V} {ds : List PyData} (i : Nat), DpAll K h vs ds → DpAll K h (vs.set i v) (ds.set i x)
  | _, _, _, .nil => .nil
  | _, _, 0, .cons _ t => .cons r t
  | _, _, i + 1, .cons q t => .cons q (DpAll.set r i t)
theorem DpAll.eraseIdx {h : Hp} : ∀ {vs : List V} {ds : List PyData} (i : Nat), DpAll K h vs ds → DpAll K h (vs.eraseIdx i) (ds.eraseIdx i)
  | _, _, _, .nil => .nil
  | _, _, 0, .cons _ t => t
  | _, _, i + 1, .cons q t => .cons q (DpAll.eraseIdx i t)
theorem DpAll.replicate {x : PyData} {v : V} {h : Hp} (r : Dp K h v x) : ∀ n : Nat, DpAll K h (List.replicate n v) (List.replicate n x)
  | 0 => .nil
  | n + 1 => .cons r (DpAll.replicate r n)
theorem DpAll.flatten {h : Hp} {vs : List V} {ds : List PyData} (r : DpAll K h vs ds) : ∀ n : Nat, DpAll K h (List.replicate n vs).flatten (List.replicate n ds).flatten
  | 0 => .nil
  | n + 1 => by
    rw [List.replicate_succ, List.replicate_succ, List.flatten_cons, List.flatten_cons]
    exact DpAll.append r (DpAll.flatten r n)
theorem DpAll.reverse {h : Hp} : ∀ {vs : List V} {ds : List PyData}, DpAll K h vs ds → DpAll K h vs.reverse ds.reverse
  | _, _, .nil => .nil
  | _, _, .cons r t => by
    rw [List.reverse_cons, List.reverse_cons]
    exact DpAll.append (DpAll.reverse t) (.cons r .nil)

theorem Ex3.refl (w : W3) : Ex3 w w := ⟨⟨⟨[], by simp⟩, Same.refl _⟩, rfl⟩
theorem Ex0.trans (a : Ex0 w w') (b : Ex0 w' w'') : Ex0 w w'' := by
  obtain ⟨t, h1⟩ := a.al
  obtain ⟨u, h2⟩ := b.al
  exact ⟨⟨t ++ u, by rw [h2, h1, List.append_assoc]⟩, a.h.trans b.h⟩
theorem Ex3.trans (a : Ex3 w w') (b : Ex3 w' w'') : Ex3 w w'' := ⟨a.toEx0.trans b.toEx0, b.pn.trans a.pn⟩
theorem Ex0.get (e : Ex0 w w') {n : Nat} {a : Addr} (h : w.al[n]? = some a) : w'.al[n]? = some a := by
  obtain ⟨t, h1⟩ := e.al
  rw [h1, List.getElem?_append_left (List.getElem?_eq_some_iff.mp h).1]
  exact h
theorem RepD.mono0 (e : Ex0 w w') (h : RepD K w v d) : RepD K w' v d := by
  cases d with
  | p d => exact dp_mono e.h d v h
  | loc n =>
    obtain ⟨a, h1, h2⟩ := h
    exact ⟨a, e.get h1, h2⟩
theorem RepD.mono (e : Ex3 w w') (h : RepD K w v d) : RepD K w' v d := h.mono0 e.toEx0
theorem RepDs.mono (e : Ex3 w w') : ∀ {vs : List V} {ds : List D}, RepDs K w vs ds → RepDs K w' vs ds
  | [], [], _ => trivial
  | _ :: _, _ :: _, h => ⟨h.1.mono e, RepDs.mono e h.2⟩
  | [], _ :: _, h => h.elim
  | _ :: _, [], h => h.elim
theorem RepDs.length : ∀ {vs : List V} {ds : List D}, RepDs K w vs ds → vs.length = ds.length
  | [], [], _ => rfl
  | _ :: _, _ :: _, h => congrArg (· + 1) (RepDs.length h.2)
  | [], _ :: _, h => h.elim
  | _ :: _, [], h => h.elim
theorem EnvR.mono0 (e : Ex0 w w') (h : EnvR K w σ env) : EnvR K w' σ env := ⟨h.1, fun i d q => by
  obtain ⟨v, h1, h2⟩ := h.2 i d q
  exact ⟨v, h1, h2.mono0 e⟩⟩
theorem EnvR.mono (e : Ex3 w w') (h : EnvR K w σ env) : EnvR K w' σ env := h.mono0 e.toEx0
theorem EnvR.set (h : EnvR K w σ env) (i : Nat) (r : RepD K w v d) : EnvR K w (σ.set i (some v)) (set3 env i d) := by
  refine ⟨by rw [List.length_set, set3_length]; exact h.1, fun j e q => ?_⟩
  rw [at3_set] at q
  by_cases hj : j = i ∧ i < env.length
  · rw [if_pos hj] at q
    cases q
    obtain ⟨rfl, hi⟩ := hj
    exact ⟨v, by rw [List.getElem?_set_self (by rw [h.1]; exact hi)], r⟩
  · rw [if_neg hj] at q
    obtain ⟨u, h1, h2⟩ := h.2 j e q
    refine ⟨u, ?_, h2⟩
    by_cases e : i = j
    · subst e
      have : i < σ.length := (List.getElem?_eq_some_iff.mp h1).1
      exact absurd ⟨rfl, by rw [← h.1]; exact this⟩ hj
    · rw [List.getElem?_set_ne e]
      exact h1
theorem Rel3.szL (r : Rel3 K w H S) {a : Addr} {xs : List V} (h : SqL K w.h a xs) : xs.length ≤ sizeLine := by
  rcases h with (h | ⟨o, h⟩) | ⟨_, its, _, _, _, _, _, hz, rv⟩
  · exact r.sz a _ h
  · exact r.sz a _ h
  · have := Vals.length rv
    rw [this]
    simpa using hz
theorem Rel3.szT (r : Rel3 K w H S) {a : Addr} {xs : List V} (h : SqT K w.h a xs) : xs.length ≤ sizeLine := by
  rcases h with (h | ⟨o, h⟩) | ⟨_, its, _, _, _, _, hz, rv⟩
  · exact r.sz a _ h
  · exact r.sz a _ h
  · have := Vals.length rv
    rw [this]
    simpa using hz
theorem RepO.mono {u : HO} {o : O3} (e : Ex0 w w') (h : RepO K w u o) : RepO K w' u o := by
  cases o with
  | lst ds =>
    obtain ⟨xs, h4, h5, h6⟩ := h
    exact ⟨xs, h4, dpAll_mono e.h ds xs h5, h6⟩
  | dic kvs =>
    obtain ⟨kxs, h4, h5⟩ := h
    exact ⟨kxs, h4, Paired.mapP h5 fun p q z => ⟨z.1, dp_mono e.h _ _ z.2⟩⟩
theorem Rel3.notal (r : Rel3 K w H S) {a : Addr} (hn : H a = none) : ∀ (n : Nat) (b : Addr), w.al[n]? = some b → b ≠ a := fun n b e z => by
  subst z
  have hw : w.h b = none := r.sub.free hn
  have hl : n < S.length := by rw [← r.len]; exact (List.getElem?_eq_some_iff.mp e).1
  cases q : S[n]? with
  | none => exact absurd hl (by rw [List.getElem?_eq_none_iff] at q; omega)
  | some o =>
    cases o with
    | none =>
      obtain ⟨u', h1⟩ := r.dead n b e q
      rw [hw] at h1
      cases h1
    | some o =>
      obtain ⟨_, u', h1, _⟩ := r.live n b o e q
      rw [hn] at h1
      cases h1
/-- a new object that will never change -/
theorem Rel3.frz (r : Rel3 K w H S) {a : Addr} {u : HO} (hn : H a = none) (hz : SzO u) : Rel3 K ⟨w.al, upd w.h a u, w.pn⟩ (upd H a u) S ∧ Ex3 w ⟨w.al, upd w.h a u, w.pn⟩ := by
  have hw : w.h a = none := r.sub.free hn
  have sm : Same w.h (upd w.h a u) := fun b o e => by
    rw [upd_ne (ne_of_none e hw)]
    exact e
  have nal := r.notal hn
  have ex : Ex3 w ⟨w.al, upd w.h a u, w.pn⟩ := ⟨⟨⟨[], by simp⟩, sm⟩, rfl⟩
  refine ⟨⟨fun b o e => ?_, fun b o e => ?_, r.len, fun n b o e q => ?_, fun n b e q => ?_, r.nd, fun b o hb => ?_, r.pnd⟩, ex⟩
  · show upd H a u b = _
    by_cases hb : b = a
    · subst hb
      have e' : upd w.h b u b = some o := e
      rw [upd_same] at e' ⊢
      exact e'
    · have e' : upd w.h a u b = some o := e
      rw [upd_ne hb] at e' ⊢
      exact r.sub b o e'
  · have e' : upd w.h a u b = some o := e
    by_cases hb : b = a
    · subst hb
      rw [upd_same] at e'
      cases e'
      exact hz
    · rw [upd_ne hb] at e'
      exact r.sz b o e'
  · obtain ⟨h1, x, h2, h3⟩ := r.live n b o e q
    have nb := nal n b e
    exact ⟨by show upd w.h a u b = none; rw [upd_ne nb]; exact h1, x, by rw [upd_ne nb]; exact h2, h3.mono ex.toEx0⟩
  · obtain ⟨x, h1⟩ := r.dead n b e q
    exact ⟨x, sm b x h1⟩
  · obtain ⟨h1, h2, h3⟩ := r.pin b o hb
    have nb : b ≠ a := fun z => by rw [z, hn] at h1; cases h1
    exact ⟨by rw [upd_ne nb]; exact h1, by show upd w.h a u b = none; rw [upd_ne nb]; exact h2, h3⟩
/-- a new object of the store -/
theorem Rel3.push (r : Rel3 K w H S) {a : Addr} {u : HO} {o : O3} (hn : H a = none) (hr : RepO K w u o) : Rel3 K ⟨w.al ++ [a], w.h, w.pn⟩ (upd H a u) (S ++ [some o]) ∧ Ex3 w ⟨w.al ++ [a], w.h, w.pn⟩ := by
  have hw : w.h a = none := r.sub.free hn
  have nal := r.notal hn
  have ex : Ex3 w ⟨w.al ++ [a], w.h, w.pn⟩ := ⟨⟨⟨[a], rfl⟩, Same.refl _⟩, rfl⟩
  refine ⟨⟨fun b x e => ?_, r.sz, by simp [r.len], fun n b x e q => ?_, fun n b e q => ?_, ?_, fun b o hb => ?_, r.pnd⟩, ex⟩
  · have e' : w.h b = some x := e
    rw [upd_ne (ne_of_none e' hw)]
    exact r.sub b x e'
  · have e' : (w.al ++ [a])[n]? = some b := e
    by_cases hl : n < w.al.length
    · rw [List.getElem?_append_left hl] at e'
      rw [List.getElem?_append_left (by rw [← r.len]; exact hl)] at q
      obtain ⟨h1, y, h2, h3⟩ := r.live n b x e' q
      exact ⟨h1, y, by rw [upd_ne (nal n b e')]; exact h2, h3.mono ex.toEx0⟩
    · rw [List.getElem?_append_right (by omega)] at e'
      rw [List.getElem?_append_right (by rw [← r.len]; omega)] at q
      have hk : n - w.al.length = 0 := by
        have := (List.getElem?_eq_some_iff.mp e').1
        simp at this
        omega
      rw [hk] at e'
      rw [← r.len, hk] at q
      simp at e' q
      subst e' q
      exact ⟨hw, u, upd_same, hr.mono ex.toEx0⟩
  · have e' : (w.al ++ [a])[n]? = some b := e
    by_cases hl : n < w.al.length
    · rw [List.getElem?_append_left hl] at e'
      rw [List.getElem?_append_left (by rw [← r.len]; exact hl)] at q
      exact r.dead n b e' q
    · rw [List.getElem?_append_right (by rw [← r.len]; omega)] at q
      have hk : n - S.length = 0 := by
        have := (List.getElem?_eq_some_iff.mp q).1
        simp at this
        omega
      rw [hk] at q
      simp at q
  · rw [List.nodup_append]
    refine ⟨r.nd, by simp, fun x hx y hy => ?_⟩
    simp at hy
    subst hy
    obtain ⟨n, hn'⟩ := List.getElem?_of_mem hx
    exact nal n x hn'
  · obtain ⟨h1, h2, h3⟩ := r.pin b o hb
    have nb : b ≠ a := fun z => by rw [z, hn] at h1; cases h1
    exact ⟨by rw [upd_ne nb]; exact h1, h2, by simp only [List.mem_append, List.mem_singleton, not_or]; exact ⟨h3, nb⟩⟩
/-- an object of the store is changed -/
theorem Rel3.put (r : Rel3 K w H S) {n : Nat} {a : Addr} {u : HO} {o o' : O3} (ha : w.al[n]? = some a) (hs : S[n]? = some (some o)) (hr : RepO K w u o') : Rel3 K w (upd H a u) (S.set n (some o')) := by
  obtain ⟨hw, _⟩ := r.live n a o ha hs
  have hlen : n < S.length := (List.getElem?_eq_some_iff.mp hs).1
  have other : ∀ m b, w.al[m]? = some b → m ≠ n → b ≠ a := fun m b e hm z => by
    subst z
    obtain ⟨h1, e1⟩ := List.getElem?_eq_some_iff.mp e
    obtain ⟨h2, e2⟩ := List.getElem?_eq_some_iff.mp ha
    exact hm ((List.getElem_inj r.nd).mp (e1.trans e2.symm))
  refine ⟨fun b x e => ?_, r.sz, by simp [r.len], fun m b x e q => ?_, fun m b e q => ?_, r.nd, fun b o hb => ?_, r.pnd⟩
  rotate_right
  · obtain ⟨h1, h2, h3⟩ := r.pin b o hb
    have nb : b ≠ a := fun z => h3 (by rw [z]; exact List.mem_of_getElem? ha)
    exact ⟨by rw [upd_ne nb]; exact h1, h2, h3⟩
  · rw [upd_ne (ne_of_none e hw)]
    exact r.sub b x e
  · by_cases hm : m = n
    · subst hm
      rw [List.getElem?_set_self hlen] at q
      have e1 : b = a := Option.some.inj (e.symm.trans ha)
      cases q
      subst e1
      exact ⟨hw, u, upd_same, hr⟩
    · rw [List.getElem?_set_ne (Ne.symm hm)] at q
      obtain ⟨h1, y, h2, h3⟩ := r.live m b x e q
      exact ⟨h1, y, by rw [upd_ne (other m b e hm)]; exact h2, h3⟩
  · by_cases hm : m = n
    · subst hm
      rw [List.getElem?_set_self hlen] at q
      cases q
    · rw [List.getElem?_set_ne (Ne.symm hm)] at q
      exact r.dead m b e q
/-- an object of the store is said to change no more -/
theorem Rel3.freeze (r : Rel3 K w H S) {n : Nat} {a : Addr} {ds : List PyData} (ha : w.al[n]? = some a) (hs : S[n]? = some (some (.lst ds))) :
    ∃ u, Rel3 K ⟨w.al, upd w.h a u, w.pn⟩ H (S.set n none) ∧ Ex3 w ⟨w.al, upd w.h a u, w.pn⟩ ∧ Dp K (upd w.h a u) (.ref a) (.list ds) := by
  obtain ⟨hw, u, hu, xs, rfl, hd, hz⟩ := r.live n a _ ha hs
  have hlen : n < S.length := (List.getElem?_eq_some_iff.mp hs).1
  have sm : Same w.h (upd w.h a (.lst xs)) := fun b o e => by
    rw [upd_ne (ne_of_none e hw)]
    exact e
  have ex : Ex3 w ⟨w.al, upd w.h a (.lst xs), w.pn⟩ := ⟨⟨⟨[], by simp⟩, sm⟩, rfl⟩
  have other : ∀ m b, w.al[m]? = some b → m ≠ n → b ≠ a := fun m b e hm z => by
    subst z
    obtain ⟨h1, e1⟩ := List.getElem?_eq_some_iff.mp e
    obtain ⟨h2, e2⟩ := List.getElem?_eq_some_iff.mp ha
    exact hm ((List.getElem_inj r.nd).mp (e1.trans e2.symm))
  refine ⟨.lst xs, ⟨fun b x e => ?_, fun b x e => ?_, by simp [r.len], fun m b x e q => ?_, fun m b e q => ?_, r.nd, fun b o hb => ?_, r.pnd⟩, ex, .lst (.inl (.inl upd_same)) (dpAll_mono sm ds xs hd)⟩
  · have e' : upd w.h a (.lst xs) b = some x := e
    by_cases hb : b = a
    · subst hb
      rw [upd_same] at e'
      cases e'
      exact hu
    · rw [upd_ne hb] at e'
      exact r.sub b x e'
  · have e' : upd w.h a (.lst xs) b = some x := e
    by_cases hb : b = a
    · subst hb
      rw [upd_same] at e'
      cases e'
      show xs.length ≤ sizeLine
      rw [DpAll.length hd]
      exact hz
    · rw [upd_ne hb] at e'
      exact r.sz b x e'
  · by_cases hm : m = n
    · subst hm
      rw [List.getElem?_set_self hlen] at q
      cases q
    · rw [List.getElem?_set_ne (Ne.symm hm)] at q
      obtain ⟨h1, y, h2, h3⟩ := r.live m b x e q
      exact ⟨by show upd w.h a (.lst xs) b = none; rw [upd_ne (other m b e hm)]; exact h1, y, h2, h3.mono ex.toEx0⟩
  · by_cases hm : m = n
    · subst hm
      have : b = a := Option.some.inj (e.symm.trans ha)
      subst this
      exact ⟨_, upd_same⟩
    · rw [List.getElem?_set_ne (Ne.symm hm)] at q
      obtain ⟨y, h1⟩ := r.dead m b e q
      exact ⟨y, sm b y h1⟩
  · obtain ⟨h1, h2, h3⟩ := r.pin b o hb
    have nb : b ≠ a := fun z => h3 (by rw [z]; exact List.mem_of_getElem? ha)
    exact ⟨h1, by show upd w.h a (.lst xs) b = none; rw [upd_ne nb]; exact h2, h3⟩
/-- the last objects of the store are forgotten -/
theorem Rel3.shrink (r : Rel3 K w H S) (L : Nat) : Rel3 K ⟨w.al.take L, w.h, w.pn⟩ H (S.take L) := by
  refine ⟨r.sub, r.sz, by simp [r.len], fun n a o e q => ?_, fun n a e q => ?_, r.nd.sublist (List.take_sublist _ _), fun b o hb => ?_, r.pnd⟩
  rotate_right
  · obtain ⟨h1, h2, h3⟩ := r.pin b o hb
    exact ⟨h1, h2, fun z => h3 (List.mem_of_mem_take z)⟩
  · have e' : (w.al.take L)[n]? = some a := e
    have hn : n < L := by
      have := (List.getElem?_eq_some_iff.mp e').1
      rw [List.length_take] at this
      omega
    rw [List.getElem?_take_of_lt hn] at e' q
    obtain ⟨h1, u, h2, h3⟩ := r.live n a o e' q
    refine ⟨h1, u, h2, ?_⟩
    cases o with
    | lst ds => exact h3
    | dic kvs => exact h3
  · have e' : (w.al.take L)[n]? = some a := e
    have hn : n < L := by
      have := (List.getElem?_eq_some_iff.mp e').1
      rw [List.length_take] at this
      omega
    rw [List.getElem?_take_of_lt hn] at e' q
    exact r.dead n a e' q
/-- a new object that stands apart, as it is -/
theorem Rel3.pinNew (r : Rel3 K w H S) {a : Addr} {u : HO} (hn : H a = none) : Rel3 K ⟨w.al, w.h, (a, u) :: w.pn⟩ (upd H a u) S := by
  have hw : w.h a = none := r.sub.free hn
  have nal := r.notal hn
  refine ⟨fun b x e => ?_, r.sz, r.len, fun n b x e q => ?_, r.dead, r.nd, fun b o hb => ?_, ?_⟩
  · rw [upd_ne (ne_of_none e hw)]
    exact r.sub b x e
  · obtain ⟨h1, y, h2, h3⟩ := r.live n b x e q
    exact ⟨h1, y, by rw [upd_ne (nal n b e)]; exact h2, h3.mono ⟨⟨[], by simp⟩, Same.refl _⟩⟩
  · rcases List.mem_cons.mp hb with e | hb
    · cases e
      refine ⟨upd_same, hw, fun z => ?_⟩
      obtain ⟨n, h⟩ := List.getElem?_of_mem z
      exact nal n _ h rfl
    · obtain ⟨h1, h2, h3⟩ := r.pin b o hb
      have nb : b ≠ a := fun z => by rw [z, hn] at h1; cases h1
      exact ⟨by rw [upd_ne nb]; exact h1, h2, h3⟩
  · show (a :: w.pn.map (·.1)).Nodup
    rw [List.nodup_cons]
    refine ⟨fun z => ?_, r.pnd⟩
    obtain ⟨p, hp, e⟩ := List.mem_map.mp z
    have := (r.pin p.1 p.2 hp).1
    rw [e, hn] at this
    cases this
/-- what stands apart is written -/
theorem Rel3.repin {al : List Addr} {h : Hp} {a : Addr} {u u' : HO} {pn : List (Addr × HO)} (r : Rel3 K ⟨al, h, (a, u) :: pn⟩ H S) : Rel3 K ⟨al, h, (a, u') :: pn⟩ (upd H a u') S := by
  obtain ⟨h1, h2, h3⟩ := r.pin a u List.mem_cons_self
  have nd := List.nodup_cons.mp (show (a :: pn.map (·.1)).Nodup from r.pnd)
  refine ⟨fun b x e => ?_, r.sz, r.len, fun n b x e q => ?_, r.dead, r.nd, fun b o hb => ?_, r.pnd⟩
  · rw [upd_ne (ne_of_none e h2)]
    exact r.sub b x e
  · obtain ⟨g1, y, g2, g3⟩ := r.live n b x e q
    have nb : b ≠ a := fun z => h3 (by rw [← z]; exact List.mem_of_getElem? e)
    exact ⟨g1, y, by rw [upd_ne nb]; exact g2, g3.mono ⟨⟨[], by simp⟩, Same.refl _⟩⟩
  · rcases List.mem_cons.mp hb with e | hb
    · cases e
      exact ⟨upd_same, h2, h3⟩
    · obtain ⟨g1, g2, g3⟩ := r.pin b o (List.mem_cons_of_mem _ hb)
      have nb : b ≠ a := fun z => nd.1 (by rw [← z]; exact List.mem_map_of_mem (f := (·.1)) hb)
      exact ⟨by rw [upd_ne nb]; exact g1, g2, g3⟩
/-- the heap without an address -/
def del (H : Hp) (a : Addr) : Hp := fun b => if b = a then none else H b
theorem Rel3.unpin {al : List Addr} {h : Hp} {a : Addr} {u : HO} {pn : List (Addr × HO)} (r : Rel3 K ⟨al, h, (a, u) :: pn⟩ H S) : Rel3 K ⟨al, h, pn⟩ (del H a) S ∧ del H a a = none ∧ upd (del H a) a u = H := by
  obtain ⟨h1, h2, h3⟩ := r.pin a u List.mem_cons_self
  have nd := List.nodup_cons.mp (show (a :: pn.map (·.1)).Nodup from r.pnd)
  have dn : ∀ b, b ≠ a → del H a b = H b := fun b hb => by unfold del; rw [if_neg hb]
  refine ⟨⟨fun b x e => ?_, r.sz, r.len, fun n b x e q => ?_, r.dead, r.nd, fun b o hb => ?_, nd.2⟩, by unfold del; rw [if_pos rfl], ?_⟩
  · rw [dn b (ne_of_none e h2)]
    exact r.sub b x e
  · obtain ⟨g1, y, g2, g3⟩ := r.live n b x e q
    have nb : b ≠ a := fun z => h3 (by rw [← z]; exact List.mem_of_getElem? e)
    exact ⟨g1, y, by rw [dn b nb]; exact g2, g3.mono ⟨⟨[], by simp⟩, Same.refl _⟩⟩
  · obtain ⟨g1, g2, g3⟩ := r.pin b o (List.mem_cons_of_mem _ hb)
    have nb : b ≠ a := fun z => nd.1 (by rw [← z]; exact List.mem_map_of_mem (f := (·.1)) hb)
    exact ⟨by rw [dn b nb]; exact g1, g2, g3⟩
  · funext b
    by_cases hb : b = a
    · subst hb
      rw [upd_same, h1]
    · rw [upd_ne hb, dn b hb]
end
end L3

namespace L3
open PySem PySem.Spec PyProof.Rows L2
/-! ### readings over trees and a store -/
abbrev K3 := D → S3 → Prop
abbrev TE3 := E3 → S3 → K3 → Prop
abbrev TT3 := E3 → S3 → (Bool → S3 → Prop) → Prop
abbrev TA3 := E3 → S3 → (List D → S3 → Prop) → Prop
abbrev R3 := D → D → S3 → K3 → Prop
abbrev U3 := D → S3 → K3 → Prop
abbrev C3 := List D → S3 → K3 → Prop
structure N3 where
  nx : E3 → S3 → Prop
  rt : K3
  bk : E3 → S3 → Prop := fun _ _ => False
  ct : E3 → S3 → Prop := fun _ _ => False
abbrev TS3 := N3 → E3 → S3 → Prop
abbrev TG3 := D → E3 → S3 → (E3 → S3 → Prop) → Prop
abbrev TGs3 := List PyData → E3 → S3 → (E3 → S3 → Prop) → Prop
abbrev TI3 := E3 → S3 → (List PyData → (S3 → Prop) → S3 → Prop) → Prop

section
variable (K : PySem.W.Frag)
/-- what is wanted behind, by trees; by values -/
def EndE (w : W3) (Q : K3) (R : VK) : Prop := ∀ w' v d H' S', Ex3 w w' → Rel3 K w' H' S' → RepD K w' v d → Q d S' → R v H'
def EndT (w : W3) (Q : Bool → S3 → Prop) (R : Bool → Hp → Prop) : Prop := ∀ w' b H' S', Ex3 w w' → Rel3 K w' H' S' → Q b S' → R b H'
def EndA (w : W3) (Q : List D → S3 → Prop) (R : List V → Hp → Prop) : Prop := ∀ w' vs ds H' S', Ex3 w w' → Rel3 K w' H' S' → RepDs K w' vs ds → Q ds S' → R vs H'
def EndN (w : W3) (Q : E3 → S3 → Prop) (R : L2.St → Hp → Prop) : Prop := ∀ w' σ' H' env' S', Ex3 w w' → Rel3 K w' H' S' → EnvR K w' σ' env' → Q env' S' → R σ' H'
structure EndS (w : W3) (D3 : N3) (D2 : Ends) : Prop where
  nx : EndN K w D3.nx D2.nx
  rt : EndE K w D3.rt D2.rt
  bk : EndN K w D3.bk D2.bk
  ct : EndN K w D3.ct D2.ct
def low (t : TE3) : TE := fun σ H R => ∃ w env S Q, Rel3 K w H S ∧ EnvR K w σ env ∧ t env S Q ∧ EndE K w Q R
def lowT (t : TT3) : TT := fun σ H R => ∃ w env S Q, Rel3 K w H S ∧ EnvR K w σ env ∧ t env S Q ∧ EndT K w Q R
def lowA (t : TA3) : TA := fun σ H R => ∃ w env S Q, Rel3 K w H S ∧ EnvR K w σ env ∧ t env S Q ∧ EndA K w Q R
def lowS (t : TS3) : TS := fun D2 σ H => ∃ w env S D3, Rel3 K w H S ∧ EnvR K w σ env ∧ t D3 env S ∧ EndS K w D3 D2
def lowG (t : TG3) : TG := fun v σ H R => ∃ w env S d Q, Rel3 K w H S ∧ EnvR K w σ env ∧ RepD K w v d ∧ t d env S Q ∧ EndN K w Q R
def lowGs (t : TGs3) : TGs := fun vs σ H R => ∃ w env S ds Q, Rel3 K w H S ∧ EnvR K w σ env ∧ DpAll K w.h vs ds ∧ t ds env S Q ∧ EndN K w Q R
def lowR (r : R3) : R2 := fun x y H R => ∃ w S d e Q, Rel3 K w H S ∧ RepD K w x d ∧ RepD K w y e ∧ r d e S Q ∧ EndE K w Q R
def lowU (r : U3) : V → Hp → VK → Prop := fun x H R => ∃ w S d Q, Rel3 K w H S ∧ RepD K w x d ∧ r d S Q ∧ EndE K w Q R
def lowC (r : C3) : List V → Hp → VK → Prop := fun xs H R => ∃ w S ds Q, Rel3 K w H S ∧ RepDs K w xs ds ∧ r ds S Q ∧ EndE K w Q R
/-- an iterator that yields the items xs, as long as the store is ok -/
def ItR (w : W3) (J : It) (xs : List PyData) (ok : S3 → Prop) : Prop := ∀ w' H S, Ex0 w w' → Rel3 K w' H S → ok S →
  (∀ i, xs.length ≤ i → J.stop i H) ∧ ∀ i x, xs[i]? = some x → J.go i H ∧ ∀ v H', J.yld i H v H' → ∃ w'', Ex3 w' w'' ∧ Rel3 K w'' H' S ∧ Dp K w''.h v x
def lowI (t : TI3) : TI := fun σ H R => ∃ w env S Q, Rel3 K w H S ∧ EnvR K w σ env ∧ t env S Q ∧
  ∀ w' J H' S' xs ok, Ex3 w w' → Rel3 K w' H' S' → ItR K w' J xs ok → xs.length ≤ sizeLine → Q xs ok S' → R J H'
end
section
variable {K : PySem.W.Frag} {w w' : W3}
theorem EndE.mono {Q : K3} {R : VK} (h : EndE K w Q R) (e : Ex3 w w') : EndE K w' Q R := fun w2 v d H' S' x r rd q => h w2 v d H' S' (e.trans x) r rd q
theorem EndT.mono {Q : Bool → S3 → Prop} {R : Bool → Hp → Prop} (h : EndT K w Q R) (e : Ex3 w w') : EndT K w' Q R := fun w2 v H' S' x r q => h w2 v H' S' (e.trans x) r q
theorem EndA.mono {Q : List D → S3 → Prop} {R : List V → Hp → Prop} (h : EndA K w Q R) (e : Ex3 w w') : EndA K w' Q R := fun w2 v d H' S' x r rd q => h w2 v d H' S' (e.trans x) r rd q
theorem EndN.mono {Q : E3 → S3 → Prop} {R : L2.St → Hp → Prop} (h : EndN K w Q R) (e : Ex3 w w') : EndN K w' Q R := fun w2 v H' env S' x r rd q => h w2 v H' env S' (e.trans x) r rd q
theorem EndS.mono {D3 : N3} {D2 : Ends} (h : EndS K w D3 D2) (e : Ex3 w w') : EndS K w' D3 D2 := ⟨h.nx.mono e, h.rt.mono e, h.bk.mono e, h.ct.mono e⟩
end

/-! ### consequence -/
section
variable {X : Cx} {e : Expr} {es : List Expr} {st : Stmt} {sts : List Stmt}
theorem _root_.L2.PE.imp {t t' : TE} (h : PE X e t) (i : ∀ σ H R, t' σ H R → t σ H R) : PE X e t' := ⟨fun pins s σ H Q I q => h.run pins s σ H Q I (i _ _ _ q)⟩
theorem _root_.L2.PT.imp {t t' : TT} (h : PT X e t) (i : ∀ σ H R, t' σ H R → t σ H R) : PT X e t' := ⟨fun pins s σ H Q I q => h.run pins s σ H Q I (i _ _ _ q)⟩
theorem _root_.L2.PW.imp {t t' : TT} (h : PW X e t) (i : ∀ σ H R, t' σ H R → t σ H R) : PW X e t' := ⟨fun wh pins s σ H Q I q => h.run wh pins s σ H Q I (i _ _ _ q)⟩
theorem _root_.L2.PA.imp {t t' : TA} (h : PA X es t) (i : ∀ σ H R, t' σ H R → t σ H R) : PA X es t' := ⟨fun pos pins s σ H Q I q => h.run pos pins s σ H Q I (i _ _ _ q)⟩
theorem _root_.L2.PS.imp {t t' : TS} (h : PS X st t) (i : ∀ D σ H, t' D σ H → t D σ H) : PS X st t' := ⟨fun pins s σ H D I q => h.run pins s σ H D I (i _ _ _ q)⟩
theorem _root_.L2.PSs.imp {t t' : TS} (h : PSs X sts t) (i : ∀ D σ H, t' D σ H → t D σ H) : PSs X sts t' := ⟨fun pins s σ H D I q => h.run pins s σ H D I (i _ _ _ q)⟩
theorem _root_.L2.PG.imp {t t' : TG} (h : PG X e t) (i : ∀ v σ H R, t' v σ H R → t v σ H R) : PG X e t' := ⟨fun pins s σ H v u Q I r q => h.run pins s σ H v u Q I r (i _ _ _ _ q)⟩
theorem _root_.L2.PGs.imp {t t' : TGs} (h : PGs X es t) (i : ∀ v σ H R, t' v σ H R → t v σ H R) : PGs X es t' := ⟨fun pins s σ H v u Q I r q => h.run pins s σ H v u Q I r (i _ _ _ _ q)⟩
theorem _root_.L2.PI.imp {tg : Expr} {t t' : TI} (h : PI X tg e t) (i : ∀ σ H R, t' σ H R → t σ H R) : PI X tg e t' := ⟨fun pins s σ H R I q => h.run pins s σ H R I (i _ _ _ q)⟩
theorem OpR.imp {f : Value → Value → Sem Value} {r r' : R2} (h : OpR X f r) (i : ∀ x y H Q, r' x y H Q → r x y H Q) : OpR X f r' := fun pins s σ H x y v u Q I rx ry q => h pins s σ H x y v u Q I rx ry (i _ _ _ _ q)
theorem IxR.imp {r r' : R2} (h : IxR X r) (i : ∀ x y H Q, r' x y H Q → r x y H Q) : IxR X r' := fun a b pins s σ H x y v u Q I rx ry q => h a b pins s σ H x y v u Q I rx ry (i _ _ _ _ q)
theorem CallR.imp {f : Value} {r r' : List V → Hp → VK → Prop} (h : CallR X f r) (i : ∀ x H Q, r' x H Q → r x H Q) : CallR X f r' := fun pins s σ H xs us Q I rx q => h pins s σ H xs us Q I rx (i _ _ _ q)
theorem CallR.or {f : Value} {r r' : List V → Hp → VK → Prop} (h : CallR X f r) (h' : CallR X f r') : CallR X f (fun x H Q => r x H Q ∨ r' x H Q) := fun pins s σ H xs us Q I rx q => q.elim (h pins s σ H xs us Q I rx) (h' pins s σ H xs us Q I rx)
theorem UnR.imp {f : Value → Sem Value} {r r' : V → Hp → VK → Prop} (h : UnR X f r) (i : ∀ x H Q, r' x H Q → r x H Q) : UnR X f r' := fun pins s σ H x v Q I rx q => h pins s σ H x v Q I rx (i _ _ _ q)
theorem MtR.imp {id : String} {r r' : V → List V → Hp → VK → Prop} (h : MtR X id r) (i : ∀ x xs H Q, r' x xs H Q → r x xs H Q) : MtR X id r' := fun pins s σ H x xs v us Q I rx rs q => h pins s σ H x xs v us Q I rx rs (i _ _ _ _ q)
end

/-! ### the judgements -/
abbrev QE (X : Cx) (e : Expr) (t : TE3) : Prop := PE X e (low X.K t)
abbrev QT (X : Cx) (e : Expr) (t : TT3) : Prop := PT X e (lowT X.K t)
abbrev QW (X : Cx) (e : Expr) (t : TT3) : Prop := PW X e (lowT X.K t)
abbrev QA (X : Cx) (es : List Expr) (t : TA3) : Prop := PA X es (lowA X.K t)
abbrev QS (X : Cx) (st : Stmt) (t : TS3) : Prop := PS X st (lowS X.K t)
abbrev QSs (X : Cx) (sts : List Stmt) (t : TS3) : Prop := PSs X sts (lowS X.K t)
abbrev QG (X : Cx) (e : Expr) (t : TG3) : Prop := PG X e (lowG X.K t)
abbrev QGs (X : Cx) (es : List Expr) (t : TGs3) : Prop := PGs X es (lowGs X.K t)
abbrev QI (X : Cx) (tg e : Expr) (t : TI3) : Prop := PI X tg e (lowI X.K t)
abbrev OQ (X : Cx) (f : Value → Value → Sem Value) (r : R3) : Prop := OpR X f (lowR X.K r)
abbrev IQ (X : Cx) (r : R3) : Prop := IxR X (lowR X.K r)
abbrev UQ (X : Cx) (f : Value → Sem Value) (r : U3) : Prop := UnR X f (lowU X.K r)
abbrev CQ (X : Cx) (f : Value) (r : C3) : Prop := CallR X f (lowC X.K r)

/-! ### names, constants, operators -/
def tVar3 (i : Nat) : TE3 := fun env S Q => match at3 env i with
  | some d => Q d S
  | none => False
def tC3 (d : PyData) : TE3 := fun _ S Q => Q (.p d) S
def tOp3 (r : R3) (ta tb : TE3) : TE3 := fun env S Q => ta env S fun x S1 => tb env S1 fun y S2 => r x y S2 Q
def tUn3 (r : U3) (ta : TE3) : TE3 := fun env S Q => ta env S fun x S1 => r x S1 Q
def tNil3 : TA3 := fun _ S Q => Q [] S
def tCons3 (ta : TE3) (tr : TA3) : TA3 := fun env S Q => ta env S fun x S1 => tr env S1 fun xs S2 => Q (x :: xs) S2
def tCB3 (r : C3) (t : TA3) : TE3 := fun env S Q => t env S fun ds S1 => r ds S1 Q
section
variable {X : Cx} {a b c : Expr} {es : List Expr} {ta tb tc : TE3} {tr : TA3} {pos : Pos}
theorem qv (i : Nat) {x : Str} {pos : Pos} (hN : X.N[i]? = some x := by rfl) (hv : Vis X.env.scope x := by first | exact Or.inl rfl | exact Or.inr (Or.inl rfl) | exact Or.inr (Or.inr rfl)) (hd : (x == ("__debug__" : Str)) = false := by decide)
    (hcd : (x == ("__classdict__" : Str)) = false := by decide) : QE X (.Name x pos) (tVar3 i) := (pe_var hN hv hd hcd).imp fun σ H R ⟨w, env, S, Q, r, en, t, q⟩ => by
  unfold tVar3 at t
  cases h : at3 env i with
  | none => rw [h] at t; exact t.elim
  | some d =>
    rw [h] at t
    obtain ⟨v, h1, h2⟩ := en.2 i d h
    exact ⟨v, h1, q w v d H S (Ex3.refl w) r h2 t⟩
theorem qe_c {v : V} {d : PyData} (h : PE X a (tC v)) (hd : ∀ K H, Dp K H v d) : QE X a (tC3 d) := L2.PE.imp h fun σ H R ⟨w, env, S, Q, r, en, t, q⟩ => q w v (.p d) H S (Ex3.refl w) r (hd _ _) t
theorem qe_int {i j pos} : QE X (.Constant (.int i) j pos) (tC3 (.int i)) := qe_c pe_int fun _ _ => .int i
theorem qe_bl {i j pos} : QE X (.Constant (.bool i) j pos) (tC3 (.bool i)) := qe_c pe_bl fun _ _ => .bl i
theorem qe_non {j pos} : QE X (.Constant .none j pos) (tC3 .none) := qe_c pe_non fun _ _ => .non
theorem qe_str {x j pos} : QE X (.Constant (.str x) j pos) (tC3 (.str x)) := qe_c pe_str fun _ _ => .str x
/-- a module's constant -/
theorem qe_glob {x : Str} {v : V} {u : Value} {d : PyData} {pos : Pos} (hg : Gl X x) (hm : X.mg x = some u) (r : RelV v u) (hd : ∀ H, Dp X.K H v d) (hdb : (x == ("__debug__" : Str)) = false := by decide) : QE X (.Name x pos) (tC3 d) :=
  L2.PE.imp (pe_glob hg hm r hdb) fun σ H R ⟨w, env, S, Q, r, en, t, q⟩ => q w v (.p d) H S (Ex3.refl w) r (hd _) t

theorem low2 {K : PySem.W.Frag} {r : R3} {σ : L2.St} {H : Hp} {R : VK} (h : low K (tOp3 r ta tb) σ H R) : tOp (lowR K r) (low K ta) (low K tb) σ H R := by
  obtain ⟨w, env, S, Q, r0, en, t, q⟩ := h
  refine ⟨w, env, S, _, r0, en, t, fun w1 v1 d1 H1 S1 e1 r1 p1 t1 => ?_⟩
  refine ⟨w1, env, S1, _, r1, en.mono e1, t1, fun w2 v2 d2 H2 S2 e2 r2 p2 t2 => ?_⟩
  exact ⟨w2, S2, d1, d2, Q, r2, p1.mono e2, p2, t2, q.mono (e1.trans e2)⟩
theorem qe_op {op : Operator} {r : R3} (ho : OQ X (binaryOp op) r) (ha : QE X a ta) (hb : QE X b tb) : QE X (.BinOp a op b pos) (tOp3 r ta tb) := (pe_op ho ha hb).imp fun _ _ _ => low2
theorem qe_un {op : UnaryOp} {r : U3} (ho : UQ X (unaryOp op) r) (ha : QE X a ta) : QE X (.UnaryOp op a pos) (tUn3 r ta) := (pe_un ho ha).imp fun σ H R ⟨w, env, S, Q, r0, en, t, q⟩ =>
  ⟨w, env, S, _, r0, en, t, fun w1 v1 d1 H1 S1 e1 r1 p1 t1 => ⟨w1, S1, d1, Q, r1, p1, t1, q.mono e1⟩⟩
theorem qe_ix {r : R3} (hr : IQ X r) (ha : QE X a ta) (hb : QE X b tb) (hs : PlainIx b := by exact fun _ _ => rfl) : QE X (.Subscript a b pos) (tOp3 r ta tb) := (pe_ix hr ha hb hs).imp fun _ _ _ => low2
theorem qe_cmp {op : CmpOp} {r : R3} (ho : OQ X (compareOp op) r) (ha : QE X a ta) (hb : QE X b tb) (hm : behindInMarks op b = false := by first | exact nomark _ | rfl) : QE X (.Compare a [op] [b] pos) (tOp3 r ta tb) := (pe_cmpR ho ha hb hm).imp fun _ _ _ => low2
def tTest3 (t : TE3) : TT3 := fun env S Q => t env S fun x S1 => match x with
  | .p (.bool c) => Q c S1
  | _ => False
theorem dp_bl {K : PySem.W.Frag} {w : W3} {v : V} {b : Bool} (h : RepD K w v (.p (.bool b))) : v = .bl b := by
  have h' : Dp K w.h v (.bool b) := h
  cases h'
  rfl
theorem dp_int {K : PySem.W.Frag} {w : W3} {v : V} {b : Int} (h : RepD K w v (.p (.int b))) : v = .int b := by
  have h' : Dp K w.h v (.int b) := h
  cases h'
  rfl
theorem dp_str {K : PySem.W.Frag} {w : W3} {v : V} {b : Str} (h : RepD K w v (.p (.str b))) : v = .str b := by
  have h' : Dp K w.h v (.str b) := h
  cases h'
  rfl
theorem dp_non {K : PySem.W.Frag} {w : W3} {v : V} (h : RepD K w v (.p .none)) : v = .non := by
  have h' : Dp K w.h v .none := h
  cases h'
  rfl
theorem rep_int {K : PySem.W.Frag} {w : W3} {i : Int} : RepD K w (.int i) (.p (.int i)) := Dp.int i
theorem rep_bl {K : PySem.W.Frag} {w : W3} {i : Bool} : RepD K w (.bl i) (.p (.bool i)) := Dp.bl i
theorem rep_str {K : PySem.W.Frag} {w : W3} {i : Str} : RepD K w (.str i) (.p (.str i)) := Dp.str i
theorem rep_non {K : PySem.W.Frag} {w : W3} : RepD K w .non (.p .none) := Dp.non
theorem test_low {K : PySem.W.Frag} {t : TE3} {t2 : TE} {σ : L2.St} {H : Hp} {R : Bool → Hp → Prop} (h2 : ∀ R', low K t σ H R' → t2 σ H R') (h : lowT K (tTest3 t) σ H R) : t2 σ H fun x H' => ∃ k, x = .bl k ∧ R k H' := by
  obtain ⟨w, env, S, Q, r0, en, t, q⟩ := h
  refine h2 _ ⟨w, env, S, _, r0, en, t, fun w1 v1 d1 H1 S1 e1 r1 p1 t1 => ?_⟩
  cases d1 with
  | loc n => exact t1.elim
  | p d =>
    cases d with
    | bool c => exact ⟨c, dp_bl p1, q w1 c H1 S1 e1 r1 t1⟩
    | _ => exact t1.elim
theorem qt_cmp {op : CmpOp} {r : R3} (ho : OQ X (compareOp op) r) (ha : QE X a ta) (hb : QE X b tb) (hm : behindInMarks op b = false := by first | exact nomark _ | rfl) : QT X (.Compare a [op] [b] pos) (tTest3 (tOp3 r ta tb)) :=
  (pt_cmpR ho ha hb hm).imp fun σ H R h => test_low (fun R' => low2) h
def tChain3 (r r' : R3) (ta tb tc : TE3) : TE3 := fun env S Q => ta env S fun x S1 => tb env S1 fun y S2 => r x y S2 fun z S3 => match z with
  | .p (.bool k) => if k = true then tc env S3 fun v S4 => r' y v S4 Q else Q (.p (.bool false)) S3
  | _ => False
theorem low_chain {K : PySem.W.Frag} {r r' : R3} {σ : L2.St} {H : Hp} {R : VK} (h : low K (tChain3 r r' ta tb tc) σ H R) : tChain (lowR K r) (lowR K r') (low K ta) (low K tb) (low K tc) σ H R := by
  obtain ⟨w, env, S, Q, r0, en, t, q⟩ := h
  refine ⟨w, env, S, _, r0, en, t, fun w1 v1 d1 H1 S1 e1 r1 p1 t1 => ?_⟩
  refine ⟨w1, env, S1, _, r1, en.mono e1, t1, fun w2 v2 d2 H2 S2 e2 r2 p2 t2 => ?_⟩
  refine ⟨w2, S2, d1, d2, _, r2, p1.mono e2, p2, t2, fun w3 v3 d3 H3 S3 e3 r3 p3 t3 => ?_⟩
  cases d3 with
  | loc n => exact t3.elim
  | p d =>
    cases d with
    | bool k =>
      refine ⟨k, dp_bl p3, ?_⟩
      cases k with
      | true =>
        simp only [if_true] at t3
        rw [if_pos rfl]
        refine ⟨w3, env, S3, _, r3, en.mono ((e1.trans e2).trans e3), t3, fun w4 v4 d4 H4 S4 e4 r4 p4 t4 => ?_⟩
        exact ⟨w4, S4, d2, d4, Q, r4, p2.mono (e3.trans e4), p4, t4, q.mono (((e1.trans e2).trans e3).trans e4)⟩
      | false =>
        simp only [Bool.false_eq_true, if_false] at t3
        rw [if_neg Bool.false_ne_true]
        exact q w3 _ _ H3 S3 ((e1.trans e2).trans e3) r3 rep_bl t3
    | _ => exact t3.elim
theorem qe_chain {op op' : CmpOp} {r r' : R3} (ho : OQ X (compareOp op) r) (ho' : OQ X (compareOp op') r') (ha : QE X a ta) (hb : QE X b tb) (hc : QE X c tc)
    (hm : lastMarks [op, op'] [b, c] = false := by with_unfolding_all rfl) : QE X (.Compare a [op, op'] [b, c] pos) (tChain3 r r' ta tb tc) := (pe_chain ho ho' ha hb hc hm).imp fun _ _ _ => low_chain
theorem qt_chain {op op' : CmpOp} {r r' : R3} (ho : OQ X (compareOp op) r) (ho' : OQ X (compareOp op') r') (ha : QE X a ta) (hb : QE X b tb) (hc : QE X c tc)
    (hm : lastMarks [op, op'] [b, c] = false := by with_unfolding_all rfl) : QT X (.Compare a [op, op'] [b, c] pos) (tTest3 (tChain3 r r' ta tb tc)) := (pt_chain ho ho' ha hb hc hm).imp fun σ H R h => test_low (fun R' => low_chain) h
/-- an expression that gives a truth, as a test -/
theorem qt_val {e : Expr} {t : TE3} (h : QE X e t) (he : ∀ whole, isTrue e X.env whole = (do let v ← whole; standAt e.pos; holding [v] (truthy v)) := by intro _; rfl) : QT X e (tTest3 t) :=
  (pt_val h he).imp fun σ H R h => test_low (t2 := low X.K t) (fun R' q => q) h

/-! and, or, not, if -/
def tAnd3 (t u : TT3) : TT3 := fun env S Q => t env S fun c S1 => if c = true then u env S1 Q else Q false S1
def tOr3 (t u : TT3) : TT3 := fun env S Q => t env S fun c S1 => if c = true then Q true S1 else u env S1 Q
def tNot3 (t : TT3) : TT3 := fun env S Q => t env S fun c S1 => Q (!c) S1
variable {tA tB' : TT3} {rest : List Expr}
theorem qw_and1 (ha : QT X a tA) : QW X (.BoolOp .And [a] pos) tA := pw_and1 ha
theorem qw_or1 (ha : QT X a tA) : QW X (.BoolOp .Or [a] pos) tA := pw_or1 ha
theorem qw_and (ha : QT X a tA) (hb : QW X (.BoolOp .And (b :: rest) pos) tB') : QW X (.BoolOp .And (a :: b :: rest) pos) (tAnd3 tA tB') := (pw_and ha hb).imp fun σ H R ⟨w, env, S, Q, r0, en, t, q⟩ => by
  refine ⟨w, env, S, _, r0, en, t, fun w1 c H1 S1 e1 r1 t1 => ?_⟩
  cases c with
  | true =>
    rw [if_pos rfl] at t1 ⊢
    exact ⟨w1, env, S1, Q, r1, en.mono e1, t1, q.mono e1⟩
  | false =>
    rw [if_neg Bool.false_ne_true] at t1 ⊢
    exact q w1 false H1 S1 e1 r1 t1
theorem qw_or (ha : QT X a tA) (hb : QW X (.BoolOp .Or (b :: rest) pos) tB') : QW X (.BoolOp .Or (a :: b :: rest) pos) (tOr3 tA tB') := (pw_or ha hb).imp fun σ H R ⟨w, env, S, Q, r0, en, t, q⟩ => by
  refine ⟨w, env, S, _, r0, en, t, fun w1 c H1 S1 e1 r1 t1 => ?_⟩
  cases c with
  | false =>
    rw [if_neg Bool.false_ne_true] at t1 ⊢
    exact ⟨w1, env, S1, Q, r1, en.mono e1, t1, q.mono e1⟩
  | true =>
    rw [if_pos rfl] at t1 ⊢
    exact q w1 true H1 S1 e1 r1 t1
theorem qt_w (h : QW X a tA) : QT X a tA := PW.pt h
theorem qt_not (ha : QT X a tA) : QT X (.UnaryOp .Not a pos) (tNot3 tA) := (pt_not ha).imp fun σ H R ⟨w, env, S, Q, r0, en, t, q⟩ =>
  ⟨w, env, S, _, r0, en, t, fun w1 c H1 S1 e1 r1 t1 => q w1 (!c) H1 S1 e1 r1 t1⟩
def tAndV3 (ta tb : TE3) : TE3 := fun env S Q => ta env S fun x S1 => match x with
  | .p (.bool k) => if k = true then tb env S1 Q else Q (.p (.bool false)) S1
  | _ => False
def tOrV3 (ta tb : TE3) : TE3 := fun env S Q => ta env S fun x S1 => match x with
  | .p (.bool k) => if k = true then Q (.p (.bool true)) S1 else tb env S1 Q
  | _ => False
def tNotV3 (ta : TE3) : TE3 := fun env S Q => ta env S fun x S1 => match x with
  | .p (.bool c) => Q (.p (.bool (!c))) S1
  | _ => False
theorem qe_one {op} {t : TE3} (h : QE X a t) : QE X (.BoolOp op [a] pos) t := pe_one h
theorem qe_and (ha : QE X a ta) (hb : QE X (.BoolOp .And (b :: rest) pos) tb) : QE X (.BoolOp .And (a :: b :: rest) pos) (tAndV3 ta tb) := (pe_and ha hb).imp fun σ H R ⟨w, env, S, Q, r0, en, t, q⟩ => by
  refine ⟨w, env, S, _, r0, en, t, fun w1 v1 d1 H1 S1 e1 r1 p1 t1 => ?_⟩
  cases d1 with
  | loc n => exact t1.elim
  | p d =>
    cases d with
    | bool k =>
      refine ⟨k, dp_bl p1, ?_⟩
      cases k with
      | true =>
        simp only [if_true] at t1
        rw [if_pos rfl]
        exact ⟨w1, env, S1, Q, r1, en.mono e1, t1, q.mono e1⟩
      | false =>
        simp only [Bool.false_eq_true, if_false] at t1
        rw [if_neg Bool.false_ne_true]
        exact q w1 _ _ H1 S1 e1 r1 rep_bl t1
    | _ => exact t1.elim
theorem qe_or (ha : QE X a ta) (hb : QE X (.BoolOp .Or (b :: rest) pos) tb) : QE X (.BoolOp .Or (a :: b :: rest) pos) (tOrV3 ta tb) := (pe_or ha hb).imp fun σ H R ⟨w, env, S, Q, r0, en, t, q⟩ => by
  refine ⟨w, env, S, _, r0, en, t, fun w1 v1 d1 H1 S1 e1 r1 p1 t1 => ?_⟩
  cases d1 with
  | loc n => exact t1.elim
  | p d =>
    cases d with
    | bool k =>
      refine ⟨k, dp_bl p1, ?_⟩
      cases k with
      | false =>
        simp only [Bool.false_eq_true, if_false] at t1
        rw [if_neg Bool.false_ne_true]
        exact ⟨w1, env, S1, Q, r1, en.mono e1, t1, q.mono e1⟩
      | true =>
        simp only [if_true] at t1
        rw [if_pos rfl]
        exact q w1 _ _ H1 S1 e1 r1 rep_bl t1
    | _ => exact t1.elim
theorem qe_not (ha : QE X a ta) : QE X (.UnaryOp .Not a pos) (tNotV3 ta) := (pe_not ha).imp fun σ H R ⟨w, env, S, Q, r0, en, t, q⟩ => by
  refine ⟨w, env, S, _, r0, en, t, fun w1 v1 d1 H1 S1 e1 r1 p1 t1 => ?_⟩
  cases d1 with
  | loc n => exact t1.elim
  | p d =>
    cases d with
    | bool k => exact ⟨k, dp_bl p1, q w1 _ _ H1 S1 e1 r1 rep_bl t1⟩
    | _ => exact t1.elim
def tIf3 (t : TT3) (ta tb : TE3) : TE3 := fun env S Q => t env S fun c S1 => if c = true then ta env S1 Q else tb env S1 Q
theorem qe_if (hc : QT X c tA) (ha : QE X a ta) (hb : QE X b tb) : QE X (.IfExp c a b pos) (tIf3 tA ta tb) := (pe_ifExp hc ha hb).imp fun σ H R ⟨w, env, S, Q, r0, en, t, q⟩ => by
  refine ⟨w, env, S, _, r0, en, t, fun w1 c H1 S1 e1 r1 t1 => ?_⟩
  cases c with
  | true =>
    rw [if_pos rfl] at t1 ⊢
    exact ⟨w1, env, S1, Q, r1, en.mono e1, t1, q.mono e1⟩
  | false =>
    rw [if_neg Bool.false_ne_true] at t1 ⊢
    exact ⟨w1, env, S1, Q, r1, en.mono e1, t1, q.mono e1⟩

/-! ### arguments, calls of built-ins, displays -/
theorem qa_nil : QA X [] tNil3 := pa_nil.imp fun σ H R ⟨w, env, S, Q, r0, en, t, q⟩ => q w [] [] H S (Ex3.refl w) r0 trivial t
theorem qa_cons (ha : QE X a ta) (hr : QA X es tr) (hs : starEach (a :: es) X.env = (false, eval a X.env) :: starEach es X.env := by rfl) : QA X (a :: es) (tCons3 ta tr) := (pa_cons ha hr hs).imp fun σ H R ⟨w, env, S, Q, r0, en, t, q⟩ => by
  refine ⟨w, env, S, _, r0, en, t, fun w1 v1 d1 H1 S1 e1 r1 p1 t1 => ?_⟩
  refine ⟨w1, env, S1, _, r1, en.mono e1, t1, fun w2 vs ds H2 S2 e2 r2 p2 t2 => ?_⟩
  exact q w2 (v1 :: vs) (d1 :: ds) H2 S2 (e1.trans e2) r2 ⟨p1.mono e2, p2⟩ t2
theorem lowCB {K : PySem.W.Frag} {r : C3} {t : TA3} {σ : L2.St} {H : Hp} {R : VK} (h : low K (tCB3 r t) σ H R) : tCB (lowC K r) (lowA K t) σ H R := by
  obtain ⟨w, env, S, Q, r0, en, t, q⟩ := h
  exact ⟨w, env, S, _, r0, en, t, fun w1 vs ds H1 S1 e1 r1 p1 t1 => ⟨w1, S1, ds, Q, r1, p1, t1, q.mono e1⟩⟩
theorem qe_cb {id : String} {x : Str} {p : Pos} {r : C3} (hc : CQ X (.builtin id) r) (hg : Gl X x) (hm : X.mg x = none) (hv : bootBuiltins x = some (.builtin id)) (ha : QA X (a :: es) tr) (hn : x ≠ "__name__" := by decide) (hdb : (x == ("__debug__" : Str)) = false := by decide)
    (he : starEach (a :: es) X.env = (false, eval a X.env) :: starEach es X.env := by rfl) (hpl : (backTo pos (starEach es X.env)).any (·.1) = false := by rfl) : QE X (.Call (.Name x p) (a :: es) [] pos) (tCB3 r tr) :=
  (pe_callB hc hg hm hv ha hn hdb he hpl).imp fun _ _ _ => lowCB
theorem qe_ty {T : String} {x : Str} {p : Pos} {r : C3} (hc : CQ X (.type T) r) (hg : Gl X x) (hm : X.mg x = none) (hv : bootBuiltins x = some (.type T)) (ha : QA X (a :: es) tr) (hn : x ≠ "__name__" := by decide) (hdb : (x == ("__debug__" : Str)) = false := by decide)
    (he : starEach (a :: es) X.env = (false, eval a X.env) :: starEach es X.env := by rfl) (hpl : (backTo pos (starEach es X.env)).any (·.1) = false := by rfl) : QE X (.Call (.Name x p) (a :: es) [] pos) (tCB3 r tr) :=
  (pe_callTy hc hg hm hv ha hn hdb he hpl).imp fun _ _ _ => lowCB
end
def pures : List D → Option (List PyData)
  | [] => some []
  | .p d :: r => match pures r with
    | some ds => some (d :: ds)
    | none => none
  | _ :: _ => none
section
variable {K : PySem.W.Frag} {w : W3}
theorem pures_all : ∀ {vs : List V} {ds : List D} {es : List PyData}, RepDs K w vs ds → pures ds = some es → DpAll K w.h vs es
  | [], [], es, _, h => by cases h; exact .nil
  | v :: vs, .p d :: ds, es, r, h => by
    unfold pures at h
    cases q : pures ds with
    | none => rw [q] at h; cases h
    | some fs =>
      rw [q] at h
      cases h
      exact .cons r.1 (pures_all r.2 q)
  | v :: vs, .loc n :: ds, es, r, h => by unfold pures at h; cases h
  | [], _ :: _, _, r, _ => r.elim
  | _ :: _, [], _, r, _ => r.elim
end
def tTup3 (t : TA3) : TE3 := fun env S Q => t env S fun ds S1 => match pures ds with
  | some es => es.length ≤ sizeLine ∧ Q (.p (.tuple es)) S1
  | none => False
section
variable {X : Cx} {es : List Expr} {tr : TA3} {pos : Pos}
theorem qe_tup {x1} (h : QA X es tr) : QE X (.Tuple es x1 pos) (tTup3 tr) := (pe_tup h).imp fun σ H R ⟨w, env, S, Q, r0, en, t, q⟩ => by
  refine ⟨w, env, S, _, r0, en, t, fun w1 vs ds H1 S1 e1 r1 p1 t1 => ?_⟩
  cases hp : pures ds with
  | none => rw [hp] at t1; exact t1.elim
  | some xs =>
    rw [hp] at t1
    have ha := pures_all p1 hp
    have hl := DpAll.length ha
    refine ⟨by rw [hl]; exact t1.1, fun p hn => ?_⟩
    obtain ⟨r2, e2⟩ := r1.frz (u := .tup vs) hn (by show vs.length ≤ _; rw [hl]; exact t1.1)
    exact q _ (.ref p) (.p (.tuple xs)) _ S1 (e1.trans e2) r2 (Dp.tup (.inl (.inl upd_same)) (dpAll_mono e2.h xs vs ha)) t1.2
/-! ### an expression that makes a new list: it stays as it is, or it is an object of the store -/
abbrev TN3 := E3 → S3 → (List PyData → S3 → Prop) → Prop
def EndNew (K : PySem.W.Frag) (w : W3) (Q : List PyData → S3 → Prop) (R : VK) : Prop := ∀ w' p xs ds H' S', Ex3 w w' → Rel3 K w' H' S' → H' p = none → DpAll K w'.h xs ds → ds.length ≤ sizeLine → Q ds S' → R (.ref p) (upd H' p (.lst xs))
def lowN (K : PySem.W.Frag) (t : TN3) : TE := fun σ H R => ∃ w env S Q, Rel3 K w H S ∧ EnvR K w σ env ∧ t env S Q ∧ EndNew K w Q R
abbrev QN (X : Cx) (e : Expr) (t : TN3) : Prop := PE X e (lowN X.K t)
def tPure (t : TN3) : TE3 := fun env S Q => t env S fun ds S1 => Q (.p (.list ds)) S1
def tOwn (t : TN3) : TE3 := fun env S Q => t env S fun ds S1 => Q (.loc S1.length) (S1 ++ [some (.lst ds)])
theorem qn_pure {e : Expr} {t : TN3} (h : QN X e t) : QE X e (tPure t) := L2.PE.imp h fun σ H R ⟨w, env, S, Q, r0, en, t, q⟩ => by
  refine ⟨w, env, S, _, r0, en, t, fun w1 p xs ds H1 S1 e1 r1 hn ha hz t1 => ?_⟩
  have hl := DpAll.length ha
  obtain ⟨r2, e2⟩ := r1.frz (u := .lst xs) hn (by show xs.length ≤ _; rw [hl]; exact hz)
  exact q _ (.ref p) (.p (.list ds)) _ S1 (e1.trans e2) r2 (Dp.lst (.inl (.inl upd_same)) (dpAll_mono e2.h ds xs ha)) t1
theorem qn_own {e : Expr} {t : TN3} (h : QN X e t) : QE X e (tOwn t) := L2.PE.imp h fun σ H R ⟨w, env, S, Q, r0, en, t, q⟩ => by
  refine ⟨w, env, S, _, r0, en, t, fun w1 p xs ds H1 S1 e1 r1 hn ha hz t1 => ?_⟩
  obtain ⟨r2, e2⟩ := r1.push (u := .lst xs) (o := .lst ds) hn ⟨xs, rfl, ha, hz⟩
  refine q _ (.ref p) (.loc S1.length) _ _ (e1.trans e2) r2 ⟨p, ?_, rfl⟩ t1
  show (w1.al ++ [p])[S1.length]? = some p
  rw [← r1.len, List.getElem?_append_right (Nat.le_refl _)]
  simp
def tLst3 (t : TA3) : TN3 := fun env S Q => t env S fun ds S1 => match pures ds with
  | some es => es.length ≤ sizeLine ∧ Q es S1
  | none => False
theorem qn_lst (h : QA X es tr) : QN X (.List es pos) (tLst3 tr) := (pe_lst h).imp fun σ H R ⟨w, env, S, Q, r0, en, t, q⟩ => by
  refine ⟨w, env, S, _, r0, en, t, fun w1 vs ds H1 S1 e1 r1 p1 t1 => ?_⟩
  cases hp : pures ds with
  | none => rw [hp] at t1; exact t1.elim
  | some xs =>
    rw [hp] at t1
    have ha := pures_all p1 hp
    have hl := DpAll.length ha
    exact ⟨by rw [hl]; exact t1.1, fun p hn => q w1 p vs xs H1 S1 e1 r1 hn ha t1.1 t1.2⟩
end
end L3

namespace L3
open PySem PySem.Spec PyProof.Rows L2
/-! ### statements -/
section
variable {K : PySem.W.Frag} {w : W3} {H : Hp} {S : S3} {σ : L2.St} {env : E3}
theorem EnvR.put {v : V} {d : D} {i : Nat} (h : EnvR K w σ env) (hi : σ[i]? = some (some v)) (r : RepD K w v d) : EnvR K w σ (set3 env i d) := by
  refine ⟨by rw [set3_length]; exact h.1, fun j e q => ?_⟩
  rw [at3_set] at q
  by_cases hj : j = i ∧ i < env.length
  · rw [if_pos hj] at q
    cases q
    rw [hj.1]
    exact ⟨v, hi, r⟩
  · rw [if_neg hj] at q
    exact h.2 j e q
theorem EndS.at {D3 : N3} {D2 : Ends} (h : EndS K w D3 D2) : EndS K w D3 D2 := h
end
def tNext3 : TS3 := fun D env S => D.nx env S
def tSeq3 (t u : TS3) : TS3 := fun D env S => t { D with nx := fun e s => u D e s } env S
def tDrop3 (te : TE3) : TS3 := fun D env S => te env S fun _ S1 => D.nx env S1
def tRet3 (te : TE3) : TS3 := fun D env S => te env S D.rt
def tRetN3 : TS3 := fun D _ S => D.rt (.p .none) S
def tBreak3 : TS3 := fun D env S => D.bk env S
def tCont3 : TS3 := fun D env S => D.ct env S
def tIfS3 (c : TT3) (t u : TS3) : TS3 := fun D env S => c env S fun b S1 => if b = true then t D env S1 else u D env S1
def tNever3 : TS3 := fun _ _ _ => False
/-- an own list in slot i is said to change no more -/
def tFrz3 (i : Nat) (u : TS3) : TS3 := fun D env S => match at3 env i with
  | some (.loc n) => ∃ ds, S[n]? = some (some (.lst ds)) ∧ u D (set3 env i (.p (.list ds))) (S.set n none)
  | _ => False
section
variable {X : Cx} {st : Stmt} {rest a b : List Stmt} {t u : TS3} {e c : Expr} {te : TE3} {tc : TT3} {pos : Pos}
theorem qss_nil : QSs X [] tNext3 := pss_nil.imp fun D σ H ⟨w, env, S, D3, r, en, t, q⟩ => q.nx w σ H env S (Ex3.refl w) r en t
theorem qss_cons (h1 : QS X st t) (h2 : QSs X rest u) : QSs X (st :: rest) (tSeq3 t u) := (pss_cons h1 h2).imp fun D σ H ⟨w, env, S, D3, r, en, t, q⟩ =>
  ⟨w, env, S, _, r, en, t, ⟨fun w1 σ1 H1 env1 S1 e1 r1 en1 t1 => ⟨w1, env1, S1, D3, r1, en1, t1, q.mono e1⟩, q.rt, q.bk, q.ct⟩⟩
theorem qss_one (h1 : QS X st t) : QSs X [st] t := pss_one h1
theorem qs_pass : QS X (.Pass pos) tNext3 := ps_pass.imp fun D σ H ⟨w, env, S, D3, r, en, t, q⟩ => q.nx w σ H env S (Ex3.refl w) r en t
theorem qs_break : QS X (.Break pos) tBreak3 := ps_break.imp fun D σ H ⟨w, env, S, D3, r, en, t, q⟩ => q.bk w σ H env S (Ex3.refl w) r en t
theorem qs_continue : QS X (.Continue pos) tCont3 := ps_continue.imp fun D σ H ⟨w, env, S, D3, r, en, t, q⟩ => q.ct w σ H env S (Ex3.refl w) r en t
theorem qs_expr (he : QE X e te) (hs : swapsWith e none pos.line X.env = pure false := by rfl) : QS X (.Expr e pos) (tDrop3 te) := (ps_expr he hs).imp fun D σ H ⟨w, env, S, D3, r, en, t, q⟩ =>
  ⟨w, env, S, _, r, en, t, fun w1 v d H1 S1 e1 r1 p1 t1 => q.nx w1 σ H1 env S1 e1 r1 (en.mono e1) t1⟩
theorem qs_ret (he : QE X e te) : QS X (.Return (some e) pos) (tRet3 te) := (ps_ret he).imp fun D σ H ⟨w, env, S, D3, r, en, t, q⟩ => ⟨w, env, S, _, r, en, t, q.rt⟩
theorem qs_retN : QS X (.Return none pos) tRetN3 := ps_retN.imp fun D σ H ⟨w, env, S, D3, r, en, t, q⟩ => q.rt w .non (.p .none) H S (Ex3.refl w) r rep_non t
theorem qs_if (hc : QT X c tc) (ha : QSs X a t) (hb : QSs X b u) : QS X (.If c a b pos) (tIfS3 tc t u) := (ps_if hc ha hb).imp fun D σ H ⟨w, env, S, D3, r, en, t, q⟩ => by
  refine ⟨w, env, S, _, r, en, t, fun w1 b H1 S1 e1 r1 t1 => ?_⟩
  cases b with
  | true =>
    rw [if_pos rfl] at t1 ⊢
    exact ⟨w1, env, S1, D3, r1, en.mono e1, t1, q.mono e1⟩
  | false =>
    rw [if_neg Bool.false_ne_true] at t1 ⊢
    exact ⟨w1, env, S1, D3, r1, en.mono e1, t1, q.mono e1⟩
theorem qs_never : QS X st tNever3 := ps_never.imp fun D σ H ⟨w, env, S, D3, r, en, t, q⟩ => t.elim
theorem qss_never : QSs X rest tNever3 := pss_never.imp fun D σ H ⟨w, env, S, D3, r, en, t, q⟩ => t.elim
theorem qss_frz (i : Nat) (h : QSs X rest u) : QSs X rest (tFrz3 i u) := L2.PSs.imp h fun D σ H ⟨w, env, S, D3, r, en, t, q⟩ => by
  unfold tFrz3 at t
  split at t
  · rename_i n hn
    obtain ⟨ds, hs, t⟩ := t
    obtain ⟨v, hv, a, ha, rfl⟩ := en.2 i _ hn
    obtain ⟨u', r1, e1, d1⟩ := r.freeze ha hs
    exact ⟨_, _, _, D3, r1, (en.mono e1).put (d := .p (.list ds)) hv d1, t, q.mono e1⟩
  · exact t.elim
end

/-! ### targets: names, tuples of targets -/
mutual
inductive Tg where
  | nm (i : Nat)
  | tup (ts : Tgs)
inductive Tgs where
  | nil
  | cons (t : Tg) (r : Tgs)
end
def Tgs.len : Tgs → Nat
  | .nil => 0
  | .cons _ r => r.len + 1
mutual
def Tg.slots : Tg → List Nat
  | .nm i => [i]
  | .tup ts => ts.slots
def Tgs.slots : Tgs → List Nat
  | .nil => []
  | .cons t r => t.slots ++ r.slots
end
mutual
def g2 (K : PySem.W.Frag) : Tg → TG
  | .nm i => gName i
  | .tup ts => gTup K ts.len (gs2 K ts)
def gs2 (K : PySem.W.Frag) : Tgs → TGs
  | .nil => gNil
  | .cons t r => gCons (g2 K t) (gs2 K r)
end
mutual
def bind3 : Tg → PyData → E3 → Option E3
  | .nm i, d, env => some (set3 env i (.p d))
  | .tup ts, .tuple ds, env => binds3 ts ds env
  | .tup _, _, _ => none
def binds3 : Tgs → List PyData → E3 → Option E3
  | .nil, [], env => some env
  | .cons t r, d :: ds, env => match bind3 t d env with
    | some env1 => binds3 r ds env1
    | none => none
  | _, _, _ => none
end
abbrev QB (X : Cx) (tg : Expr) (T : Tg) : Prop := PG X tg (g2 X.K T)
abbrev QBs (X : Cx) (tgs : List Expr) (T : Tgs) : Prop := PGs X tgs (gs2 X.K T)
section
variable {X : Cx} {pos : Pos}
theorem qb_nm {i : Nat} {x : Str} (hN : X.N.Nodup) (hi : X.N[i]? = some x) (hx : Loc X.env.scope x) (hf : X.fn x = true ∨ X.env.scope.names.lookup x = some .local := by first | exact .inl rfl | exact .inr rfl | assumption) : QB X (.Name x pos) (.nm i) := pg_name hN hi hx hf
theorem qbs_nil : QBs X [] .nil := pgs_nil
theorem qbs_cons {e : Expr} {es : List Expr} {t : Tg} {r : Tgs} (h1 : QB X e t) (h2 : QBs X es r)
    (hs : (assignEach (e :: es) X.env).map (·.2) = assign e X.env :: (assignEach es X.env).map (·.2) := by rfl) : QBs X (e :: es) (.cons t r) := pgs_cons h1 h2 hs
theorem qb_tup {es : List Expr} {k : Nat} {ts : Tgs} (hc : X.calm = true) (h : QBs X es ts)
    (hn : (assignEach es X.env).length = ts.len := by rfl) (hst : (assignEach es X.env).findIdx? (·.1) = none := by rfl) : QB X (.Tuple es k pos) (.tup ts) := pg_tup hc h hn hst
end
theorem wipe_set_mem {v : Option V} : ∀ (σ : L2.St) (vs : List Nat) (i : Nat), i ∈ vs → wipe (σ.set i v) vs = wipe σ vs
  | σ, [], i, h => by cases h
  | σ, j :: vs, i, h => by
    unfold wipe
    by_cases hm : i ∈ vs
    · rw [wipe_set_mem σ vs i hm]
    · have hij : i = j := by
        rcases List.mem_cons.mp h with e | e
        · exact e
        · exact absurd e hm
      subst hij
      have go : ∀ (vs : List Nat), i ∉ vs → wipe (σ.set i v) vs = (wipe σ vs).set i v := by
        intro vs
        induction vs with
        | nil => intro _; rfl
        | cons k vs ih =>
          intro hk
          unfold wipe
          rw [ih fun z => hk (List.mem_cons_of_mem _ z), List.set_comm _ _ fun z => hk (by rw [z]; exact List.mem_cons_self)]
      rw [go vs hm, List.set_set]
theorem wipe_eq : ∀ (σ σ' : L2.St) (vs : List Nat), wipe σ vs = wipe σ' vs → ∀ (i : Nat) (v : Option V), i ∈ vs → wipe (σ.set i v) vs = wipe σ' vs := fun σ σ' vs h i v hi => (wipe_set_mem σ vs i hi).trans h
section
variable {K : PySem.W.Frag} {w : W3} {H : Hp} {S : S3}
mutual
theorem bind_low (r : Rel3 K w H S) (vs : List Nat) : ∀ (T : Tg) (d : PyData) (v : V) (σ : L2.St) (env env2 : E3), (∀ i ∈ T.slots, i ∈ vs) → EnvR K w σ env → Dp K w.h v d → bind3 T d env = some env2 →
    ∀ R : L2.St → Hp → Prop, (∀ σ', EnvR K w σ' env2 → wipe σ' vs = wipe σ vs → R σ' H) → g2 K T v σ H R
  | .nm i, d, v, σ, env, env2, hs, en, dp, hb, R, hR => by
    unfold bind3 at hb
    cases hb
    unfold g2
    exact hR _ (en.set i dp) (wipe_set_mem σ vs i (hs i (by simp [Tg.slots])))
  | .tup ts, .tuple ds, v, σ, env, env2, hs, en, dp, hb, R, hR => by
    unfold bind3 at hb
    cases dp with
    | tup hq ha =>
      unfold g2
      refine ⟨_, _, rfl, Same.sqT r.sub hq, ?_, binds_low r vs ts ds _ σ env env2 (fun i hi => hs i (by unfold Tg.slots; exact hi)) en ha hb R hR⟩
      rw [DpAll.length ha]
      exact binds_len ts ds env env2 hb
  | .tup _, .none, v, σ, env, env2, hs, en, dp, hb, R, hR => by simp [bind3] at hb
  | .tup _, .bool _, v, σ, env, env2, hs, en, dp, hb, R, hR => by simp [bind3] at hb
  | .tup _, .int _, v, σ, env, env2, hs, en, dp, hb, R, hR => by simp [bind3] at hb
  | .tup _, .str _, v, σ, env, env2, hs, en, dp, hb, R, hR => by simp [bind3] at hb
  | .tup _, .list _, v, σ, env, env2, hs, en, dp, hb, R, hR => by simp [bind3] at hb
  | .tup _, .dict _, v, σ, env, env2, hs, en, dp, hb, R, hR => by simp [bind3] at hb
theorem binds_low (r : Rel3 K w H S) (vs : List Nat) : ∀ (T : Tgs) (ds : List PyData) (us : List V) (σ : L2.St) (env env2 : E3), (∀ i ∈ T.slots, i ∈ vs) → EnvR K w σ env → DpAll K w.h us ds → binds3 T ds env = some env2 →
    ∀ R : L2.St → Hp → Prop, (∀ σ', EnvR K w σ' env2 → wipe σ' vs = wipe σ vs → R σ' H) → gs2 K T us σ H R
  | .nil, [], us, σ, env, env2, hs, en, dp, hb, R, hR => by
    unfold binds3 at hb
    cases hb
    cases dp
    unfold gs2
    exact ⟨rfl, hR σ en rfl⟩
  | .cons t q, d :: ds, us, σ, env, env2, hs, en, dp, hb, R, hR => by
    unfold binds3 at hb
    cases h1 : bind3 t d env with
    | none => rw [h1] at hb; cases hb
    | some env1 =>
      rw [h1] at hb
      cases dp with
      | cons dp1 dp2 =>
        unfold gs2
        refine ⟨_, _, rfl, bind_low r vs t d _ σ env env1 (fun i hi => hs i (by unfold Tgs.slots; exact List.mem_append_left _ hi)) en dp1 h1 _ fun σ' en' hw => ?_⟩
        exact binds_low r vs q ds _ σ' env1 env2 (fun i hi => hs i (by unfold Tgs.slots; exact List.mem_append_right _ hi)) en' dp2 hb R fun σ'' en'' hw' => hR σ'' en'' (hw'.trans hw)
  | .nil, _ :: _, us, σ, env, env2, hs, en, dp, hb, R, hR => by simp [binds3] at hb
  | .cons _ _, [], us, σ, env, env2, hs, en, dp, hb, R, hR => by simp [binds3] at hb
theorem binds_len : ∀ (T : Tgs) (ds : List PyData) (env env2 : E3), binds3 T ds env = some env2 → ds.length = T.len
  | .nil, [], _, _, _ => rfl
  | .cons t q, d :: ds, env, env2, hb => by
    unfold binds3 at hb
    cases h1 : bind3 t d env with
    | none => rw [h1] at hb; cases hb
    | some env1 =>
      rw [h1] at hb
      show ds.length + 1 = q.len + 1
      rw [binds_len q ds env1 env2 hb]
  | .nil, _ :: _, env, env2, hb => by simp [binds3] at hb
  | .cons _ _, [], env, env2, hb => by simp [binds3] at hb
end
end
/-- target = e, a target of names -/
def tAsgT3 (te : TE3) (T : Tg) : TS3 := fun D env S => te env S fun x S1 => match x with
  | .p d => match bind3 T d env with
    | some env2 => D.nx env2 S1
    | none => False
  | _ => False
/-- name = e -/
def tSet3 (i : Nat) (te : TE3) : TS3 := fun D env S => te env S fun x S1 => D.nx (set3 env i x) S1
section
variable {X : Cx} {e tg : Expr} {te : TE3} {T : Tg} {pos : Pos}
theorem qs_asgT (he : QE X e te) (hg : QB X tg T) (hs : swapsWithSole [tg] e pos.line X.env = pure false := by rfl) (hw : swappedStores [tg] e X.env = pure none := by rfl)
    (h1 : (assignEach [tg] X.env).map (·.2) = [assign tg X.env] := by rfl) : QS X (.Assign [tg] e pos) (tAsgT3 te T) := (ps_asg he hg hs hw h1).imp fun D σ H ⟨w, env, S, D3, r, en, t, q⟩ => by
  refine ⟨w, env, S, _, r, en, t, fun w1 v d H1 S1 e1 r1 p1 t1 => ?_⟩
  cases d with
  | loc n => exact t1.elim
  | p d =>
    cases hb : bind3 T d env with
    | none =>
      simp only [hb] at t1
    | some env2 =>
      simp only [hb] at t1
      exact bind_low r1 T.slots T d v σ env env2 (fun _ h => h) (en.mono e1) p1 hb _ fun σ' en' _ => q.nx w1 σ' H1 env2 S1 e1 r1 en' t1
theorem qs_set {i : Nat} {x : Str} {pos' : Pos} (hN : X.N.Nodup) (hi : X.N[i]? = some x) (hx : Loc X.env.scope x) (he : QE X e te) (hs : swapsWith e (some (.Name x pos')) pos.line X.env = pure false := by rfl) (hf : X.fn x = true ∨ X.env.scope.names.lookup x = some .local := by first | exact .inl rfl | exact .inr rfl | assumption) :
    QS X (.Assign [.Name x pos'] e pos) (tSet3 i te) := (ps_set hN hi hx he hs hf).imp fun D σ H ⟨w, env, S, D3, r, en, t, q⟩ =>
  ⟨w, env, S, _, r, en, t, fun w1 v d H1 S1 e1 r1 p1 t1 => q.nx w1 _ H1 _ S1 e1 r1 ((en.mono e1).set i p1) t1⟩
/-- a, b = x, y -/
def tPr3 (i j : Nat) (ta : TA3) : TS3 := fun D env S => ta env S fun ds S1 => match ds with
  | [x, y] => D.nx (set3 (set3 env i x) j y) S1
  | _ => False
theorem qs_par {i j : Nat} {x y : Str} {a b : Expr} {ta : TA3} {px py pt : Pos} {kt k2 pt2} (hc : X.calm = true) (hN : X.N.Nodup) (hi : X.N[i]? = some x) (hj : X.N[j]? = some y) (hij : i ≠ j)
    (hx : X.env.scope.names.lookup x = some .local) (hy : X.env.scope.names.lookup y = some .local) (ha : QA X [a, b] ta)
    (hw : swappedStores [.Tuple [.Name x px, .Name y py] kt pt] (.Tuple [a, b] k2 pt2) X.env = pure (some [x, y]))
    (hs : swapsWithSole [.Tuple [.Name x px, .Name y py] kt pt] (.Tuple [a, b] k2 pt2) pos.line X.env = pure false := by rfl) :
    QS X (.Assign [.Tuple [.Name x px, .Name y py] kt pt] (.Tuple [a, b] k2 pt2) pos) (tPr3 i j ta) := (ps_par hc hN hi hj hij hx hy ha hw hs).imp fun D σ H ⟨w, env, S, D3, r, en, t, q⟩ => by
  refine ⟨w, env, S, _, r, en, t, fun w1 vs ds H1 S1 e1 r1 p1 t1 => ?_⟩
  match vs, ds, p1, t1 with
  | [v, u], [x, y], p1, t1 =>
    exact ⟨v, u, rfl, q.nx w1 _ H1 _ S1 e1 r1 (((en.mono e1).set i p1.1).set j p1.2.1) t1⟩
  | [], [x, y], p1, _ => exact p1.elim
  | [_], [x, y], p1, _ => exact p1.2.elim
  | _ :: _ :: _ :: _, [x, y], p1, _ => exact p1.2.2.elim
end

/-! ### what a loop walks -/
def tSeqI3 (te : TE3) : TI3 := fun env S Q => te env S fun x S1 => match x with
  | .p (.list ds) => Q ds (fun _ => True) S1
  | .p (.tuple ds) => Q ds (fun _ => True) S1
  | .loc n => ∃ ds, S1[n]? = some (some (.lst ds)) ∧ Q ds (fun S => S[n]? = some (some (.lst ds))) S1
  | _ => False
def rng (lo : Int) (n : Nat) : List PyData := (List.range n).map fun i => .int (lo + (i : Nat))
theorem rng_get {lo : Int} {n i : Nat} {x : PyData} (h : (rng lo n)[i]? = some x) : i < n ∧ x = .int (lo + (i : Nat)) := by
  unfold rng at h
  rw [List.getElem?_map] at h
  cases q : (List.range n)[i]? with
  | none => rw [q] at h; cases h
  | some j =>
    rw [q] at h
    cases h
    obtain ⟨h1, h2⟩ := List.getElem?_eq_some_iff.mp q
    rw [List.getElem_range] at h2
    rw [List.length_range] at h1
    exact ⟨h1, by rw [h2]⟩
theorem rng_len (lo : Int) (n : Nat) : (rng lo n).length = n := by unfold rng; rw [List.length_map, List.length_range]
def tRng1 (ta : TA3) : TI3 := fun env S Q => ta env S fun ds S1 => match ds with
  | [.p (.int n)] => (-4611686018427387904 ≤ n ∧ n ≤ 16777216) ∧ Q (rng 0 n.toNat) (fun _ => True) S1
  | _ => False
def tRng2 (ta : TA3) : TI3 := fun env S Q => ta env S fun ds S1 => match ds with
  | [.p (.int a), .p (.int b)] => (-16777216 ≤ a ∧ a ≤ 16777216 ∧ -16777216 ≤ b ∧ b ≤ 16777216 ∧ b - a ≤ 16777216) ∧ Q (rng a (b - a).toNat) (fun _ => True) S1
  | _ => False
/-- lists of pairs -/
def zip3 (xs ys : List PyData) : List PyData := (xs.zip ys).map fun p => .tuple [p.1, p.2]
def enum3 (xs : List PyData) : List PyData := xs.zipIdx.map fun p => .tuple [.int (p.2 : Nat), p.1]
section
variable {K : PySem.W.Frag} {w : W3} {H : Hp} {S : S3}
theorem itr_list {a : Addr} {ds : List PyData} (h : Dp K w.h (.ref a) (.list ds)) : ItR K w (Itl K a) ds fun _ => True := fun w' H S e r _ => by
  have h' := dp_mono e.h _ _ h
  cases h' with
  | lst hq ha =>
    have hl := DpAll.length ha
    have hq' := L2.Same.seq r.sub hq
    refine ⟨fun i hi => ⟨_, hq', by omega⟩, fun i x hx => ?_⟩
    obtain ⟨v, h1, h2⟩ := DpAll.get ha hx
    refine ⟨⟨_, v, hq', h1⟩, fun u H' y => ?_⟩
    obtain ⟨rfl, y⟩ := y
    have := (y _ hq').symm.trans h1
    cases this
    exact ⟨w', Ex3.refl _, r, h2⟩
theorem itr_tup {a : Addr} {ds : List PyData} (h : Dp K w.h (.ref a) (.tuple ds)) : ItR K w (Itt K a) ds fun _ => True := fun w' H S e r _ => by
  have h' := dp_mono e.h _ _ h
  cases h' with
  | tup hq ha =>
    have hl := DpAll.length ha
    have hq' := Same.sqT r.sub hq
    refine ⟨fun i hi => ⟨_, hq', by omega⟩, fun i x hx => ?_⟩
    obtain ⟨v, h1, h2⟩ := DpAll.get ha hx
    refine ⟨⟨_, v, hq', h1⟩, fun u H' y => ?_⟩
    obtain ⟨rfl, y⟩ := y
    have := (y _ hq').symm.trans h1
    cases this
    exact ⟨w', Ex3.refl _, r, h2⟩
theorem itr_loc {a : Addr} {n : Nat} {ds : List PyData} (ha : w.al[n]? = some a) : ItR K w (Itl K a) ds fun S => S[n]? = some (some (.lst ds)) := fun w' H S e r hs => by
  obtain ⟨_, u, hu, xs, rfl, hd, _⟩ := r.live n a _ (e.get ha) hs
  have hl := DpAll.length hd
  have hq : SqL K H a xs := .inl (.inl hu)
  refine ⟨fun i hi => ⟨_, hq, by omega⟩, fun i x hx => ?_⟩
  obtain ⟨v, h1, h2⟩ := DpAll.get hd hx
  refine ⟨⟨_, v, hq, h1⟩, fun u H' y => ?_⟩
  obtain ⟨rfl, y⟩ := y
  have := (y _ hq).symm.trans h1
  cases this
  exact ⟨w', Ex3.refl _, r, h2⟩
theorem itr_rng {lo : Int} {n : Nat} : ItR K w (Itr lo n) (rng lo n) fun _ => True := fun w' H S e r _ => by
  refine ⟨fun i hi => by rw [rng_len] at hi; exact hi, fun i x hx => ?_⟩
  obtain ⟨h1, rfl⟩ := rng_get hx
  refine ⟨h1, fun v H' y => ?_⟩
  obtain ⟨rfl, rfl⟩ := y
  exact ⟨w', Ex3.refl _, r, .int _⟩
theorem len_list {a : Addr} {ds : List PyData} (r : Rel3 K w H S) (h : Dp K w.h (.ref a) (.list ds)) : ds.length ≤ sizeLine := by
  cases h with
  | lst hq ha =>
    rw [← DpAll.length ha]
    exact r.szL hq
theorem len_tup {a : Addr} {ds : List PyData} (r : Rel3 K w H S) (h : Dp K w.h (.ref a) (.tuple ds)) : ds.length ≤ sizeLine := by
  cases h with
  | tup hq ha =>
    rw [← DpAll.length ha]
    exact r.szT hq
theorem dp_list_ref {h : Hp} {v : V} {ds : List PyData} (q : Dp K h v (.list ds)) : ∃ a xs, v = .ref a ∧ SqL K h a xs ∧ DpAll K h xs ds := by
  cases q with
  | lst hq ha => exact ⟨_, _, rfl, hq, ha⟩
theorem dp_tup_ref {h : Hp} {v : V} {ds : List PyData} (q : Dp K h v (.tuple ds)) : ∃ a xs, v = .ref a ∧ SqT K h a xs ∧ DpAll K h xs ds := by
  cases q with
  | tup hq ha => exact ⟨_, _, rfl, hq, ha⟩
end
section
variable {X : Cx} {tg l a b : Expr} {te : TE3} {ta : TA3} {p pos : Pos}
/-- a list or a tuple, walked -/
def iSeq (K : PySem.W.Frag) (tl : TE) : TI := fun σ H R => tl σ H fun x H1 => ∃ a, x = .ref a ∧ (((∃ xs, SqL K H1 a xs) ∧ R (Itl K a) H1) ∨ ((∃ xs, SqT K H1 a xs) ∧ R (Itt K a) H1))
theorem pi_seq {tl : TE} (hl : PE X l tl) : PI X tg l (iSeq X.K tl) := by
  refine ⟨fun pins s σ H R I h => ?_⟩
  refine thn (hl.run pins s σ H _ I h) fun v s1 ⟨x, H1, I1, r1, q1⟩ => ?_
  obtain ⟨a, e, q1⟩ := q1
  subst e
  cases r1
  rcases q1 with ⟨⟨xs, hq⟩, q⟩ | ⟨⟨xs, hq⟩, q⟩
  · obtain ⟨its, rv, p, hz⟩ := I1.list hq
    refine wpAny_pyIter_list p.isList ?_
    refine ⟨s1.heap.objs.size, [s1.heap.objs.size], _, _, H1, rfl, I1.kept (t' := s1.toks) fun b o e => Heap.get?_push_of_some _ e, turn_list a _, ⟨_, Heap.get?_push_size _ rfl, rfl, rfl⟩, fun b hb => ?_, q⟩
    have e : b = s1.heap.objs.size := by simpa using hb
    subst e
    exact I1.fpOk (Nat.le_refl _) (I1.hok.fresh (Nat.le_refl _))
  · obtain ⟨its, rv, p, hz⟩ := I1.tuple hq
    refine wpAny_pyIter_tuple (show s1.heap.IsTuple a its.toArray from p) ?_
    refine ⟨s1.heap.objs.size, [s1.heap.objs.size], _, _, H1, rfl, I1.kept (t' := s1.toks) fun b o e => Heap.get?_push_of_some _ e, turn_tuple a _, ⟨_, Heap.get?_push_size _ rfl, rfl, rfl⟩, fun b hb => ?_, q⟩
    have e : b = s1.heap.objs.size := by simpa using hb
    subst e
    exact I1.fpOk (Nat.le_refl _) (I1.hok.fresh (Nat.le_refl _))
theorem qi_seq (hl : QE X l te) : QI X tg l (tSeqI3 te) := (pi_seq hl).imp fun σ H R ⟨w, env, S, Q, r0, en, t, q⟩ => by
  refine ⟨w, env, S, _, r0, en, t, fun w1 v d H1 S1 e1 r1 p1 t1 => ?_⟩
  match d, p1, t1 with
  | .p (.list ds), p1, t1 =>
    obtain ⟨a, xs, rfl, hq, ha⟩ := dp_list_ref p1
    exact ⟨a, rfl, .inl ⟨⟨xs, L2.Same.seq r1.sub hq⟩, q w1 _ H1 S1 ds _ e1 r1 (itr_list p1) (len_list r1 p1) t1⟩⟩
  | .p (.tuple ds), p1, t1 =>
    obtain ⟨a, xs, rfl, hq, ha⟩ := dp_tup_ref p1
    exact ⟨a, rfl, .inr ⟨⟨xs, Same.sqT r1.sub hq⟩, q w1 _ H1 S1 ds _ e1 r1 (itr_tup p1) (len_tup r1 p1) t1⟩⟩
  | .loc n, p1, t1 =>
    obtain ⟨ds, hs, t1⟩ := t1
    obtain ⟨a, ha, rfl⟩ := p1
    obtain ⟨_, u, hu, xs, rfl, hd, hz⟩ := r1.live n a _ ha hs
    exact ⟨a, rfl, .inl ⟨⟨xs, .inl (.inl hu)⟩, q w1 _ H1 S1 ds _ e1 r1 (itr_loc ha) hz t1⟩⟩
theorem qi_range1 (hg : Gl X "range") (hm : X.mg "range" = none) (ha : QA X [a] ta) (hs : starEach [a] X.env = [(false, eval a X.env)] := by rfl) : QI X tg (.Call (.Name "range" p) [a] [] pos) (tRng1 ta) := (pi_range1 hg hm ha hs).imp fun σ H R ⟨w, env, S, Q, r0, en, t, q⟩ => by
  refine ⟨w, env, S, _, r0, en, t, fun w1 vs ds H1 S1 e1 r1 p1 t1 => ?_⟩
  match vs, ds, p1, t1 with
  | [v], [.p (.int n)], p1, t1 =>
    have := dp_int p1.1
    subst this
    have hz : sizeLine = 16777216 := sizeLine_eq
    refine ⟨n, rfl, by omega, by omega, q w1 _ H1 S1 _ _ e1 r1 itr_rng (by rw [rng_len]; omega) t1.2⟩
  | [], [.p (.int n)], p1, _ => exact p1.elim
  | _ :: _ :: _, [.p (.int n)], p1, _ => exact p1.2.elim
theorem qi_range2 (hg : Gl X "range") (hm : X.mg "range" = none) (ha : QA X [a, b] ta) (hs : starEach [a, b] X.env = [(false, eval a X.env), (false, eval b X.env)] := by rfl) (hs2 : starEach [b] X.env = [(false, eval b X.env)] := by rfl) : QI X tg (.Call (.Name "range" p) [a, b] [] pos) (tRng2 ta) := (pi_range2 hg hm ha hs hs2).imp fun σ H R ⟨w, env, S, Q, r0, en, t, q⟩ => by
  refine ⟨w, env, S, _, r0, en, t, fun w1 vs ds H1 S1 e1 r1 p1 t1 => ?_⟩
  match vs, ds, p1, t1 with
  | [v, u], [.p (.int n), .p (.int m)], p1, t1 =>
    have := dp_int p1.1
    subst this
    have := dp_int p1.2.1
    subst this
    have hz : sizeLine = 16777216 := sizeLine_eq
    refine ⟨n, m, rfl, by omega, q w1 _ H1 S1 _ _ e1 r1 itr_rng (by rw [rng_len]; omega) t1.2⟩
  | [], [.p (.int n), .p (.int m)], p1, _ => exact p1.elim
  | [_], [.p (.int n), .p (.int m)], p1, _ => exact p1.2.elim
  | _ :: _ :: _ :: _, [.p (.int n), .p (.int m)], p1, _ => exact p1.2.2.elim
end

/-! ### loops -/
def below (L : Nat) : D → Prop
  | .p _ => True
  | .loc n => n < L
/-- slots are forgotten, the store's last objects too -/
def Fits (env env' : E3) (L : Nat) : Prop := env'.length = env.length ∧ ∀ i d, at3 env' i = some d → at3 env i = some d ∧ below L d
def Wk (n : Nat) (I : E3 → S3 → Prop) : E3 → S3 → Prop := fun env S => I env S ∨ ∃ L env', n ≤ L ∧ Fits env env' L ∧ I env' (S.take L)
theorem wk_low {K : PySem.W.Frag} {w w' : W3} {H : Hp} {S : S3} {σ : L2.St} {env : E3} {n : Nat} {I : E3 → S3 → Prop} (hn : w.al.length ≤ n) (e : Ex3 w w') (r : Rel3 K w' H S) (en : EnvR K w' σ env) (h : Wk n I env S) :
    ∃ w2 env2 S2, Ex3 w w2 ∧ Rel3 K w2 H S2 ∧ EnvR K w2 σ env2 ∧ I env2 S2 := by
  rcases h with h | ⟨L, env', hL, hf, h⟩
  · exact ⟨w', env, S, e, r, en, h⟩
  · refine ⟨⟨w'.al.take L, w'.h, w'.pn⟩, env', _, ⟨⟨?_, e.h⟩, e.pn⟩, r.shrink L, ⟨en.1.trans hf.1.symm, fun i d hd => ?_⟩, h⟩
    · obtain ⟨t, ht⟩ := e.al
      refine ⟨t.take (L - w.al.length), ?_⟩
      show w'.al.take L = _
      rw [ht, List.take_append, List.take_of_length_le (by omega)]
    · obtain ⟨h1, h2⟩ := hf.2 i d hd
      obtain ⟨v, h3, h4⟩ := en.2 i d h1
      refine ⟨v, h3, ?_⟩
      cases d with
      | p d => exact h4
      | loc m =>
        obtain ⟨a, h5, h6⟩ := h4
        exact ⟨a, by show (w'.al.take L)[m]? = _; rw [List.getElem?_take_of_lt h2]; exact h5, h6⟩
def tFor3 (ti : TI3) (T : Tg) (tb : TS3) : TS3 := fun D env S => ti env S fun xs ok S1 => ∃ I : Nat → E3 → S3 → Prop, I 0 env S1 ∧ (∀ i e s, I i e s → ok s) ∧
  (∀ i x e s, xs[i]? = some x → I i e s → match bind3 T x e with
    | some e2 => tb { D with nx := Wk S1.length (I (i + 1)), ct := Wk S1.length (I (i + 1)), bk := D.nx } e2 s
    | none => False) ∧ ∀ e s, I xs.length e s → D.nx e s
section
variable {X : Cx} {tg iter : Expr} {body : List Stmt} {ti : TI3} {T : Tg} {tb : TS3} {tc : TT3} {c : Expr} {pos : Pos}
theorem qs_for (hp : PassesOwn (model X.prog X.w) X.A X.env X.xe) (hc : X.calm = true) (hi : QI X tg iter ti) (hg : QB X tg T) (hb : QSs X body tb)
    (hs : ∀ x, foldedSetIterable iter X.env x = pure x := by intro _; rfl) : QS X (.For tg iter body [] pos) (tFor3 ti T tb) := (ps_for hp hc hi hg hb hs).imp fun D σ H ⟨w, env, S, D3, r0, en, t, q⟩ => by
  refine ⟨w, env, S, _, r0, en, t, fun w1 J H1 S1 xs ok e1 r1 hJ hz t1 => ?_⟩
  obtain ⟨I, h0, hok, hs, hd⟩ := t1
  refine ⟨fun i m σ H => i ≤ xs.length ∧ m = xs.length - i ∧ ∃ w2 e s, Ex3 w1 w2 ∧ Rel3 X.K w2 H s ∧ EnvR X.K w2 σ e ∧ I i e s, ⟨_, Nat.zero_le _, rfl, w1, env, S1, Ex3.refl _, r1, en.mono e1, h0⟩, ?_⟩
  rintro i m σ2 H2 ⟨hi, rfl, w2, e, s, e2, r2, en2, h2⟩
  obtain ⟨hstop, hgo⟩ := hJ w2 H2 s e2.toEx0 r2 (hok i e s h2)
  by_cases hlt : i < xs.length
  · obtain ⟨go, hy⟩ := hgo i xs[i] (List.getElem?_eq_getElem hlt)
    refine .inr ⟨go, fun σ' H' => ∃ w' e' s', Ex3 w1 w' ∧ Rel3 X.K w' H' s' ∧ EnvR X.K w' σ' e' ∧ I (i + 1) e' s', fun σ' H' ⟨w', e', s', a1, a2, a3, a4⟩ => ⟨xs.length - (i + 1), by omega, hlt, rfl, w', e', s', a1, a2, a3, a4⟩, fun x H' y => ?_⟩
    obtain ⟨w3, e3, r3, d3⟩ := hy x H' y
    have step := hs i xs[i] e s (List.getElem?_eq_getElem hlt) h2
    cases hbd : bind3 T xs[i] e with
    | none => rw [hbd] at step; exact step.elim
    | some env3 =>
      rw [hbd] at step
      refine bind_low r3 T.slots T xs[i] x σ2 e env3 (fun _ h => h) (en2.mono e3) d3 hbd _ fun σ3 en3 _ => ?_
      have back : EndN X.K w3 (Wk S1.length (I (i + 1))) fun σ' H' => ∃ w' e' s', Ex3 w1 w' ∧ Rel3 X.K w' H' s' ∧ EnvR X.K w' σ' e' ∧ I (i + 1) e' s' := fun w4 σ4 H4 e4 s4 x4 r4 en4 h4 => by
        obtain ⟨w5, e5, s5, a1, a2, a3, a4⟩ := wk_low (w := w1) (by rw [r1.len]; exact Nat.le_refl _) ((e2.trans e3).trans x4) r4 en4 h4
        exact ⟨w5, e5, s5, a1, a2, a3, a4⟩
      exact ⟨w3, env3, s, _, r3, en3, step, ⟨back, q.rt.mono (((e1.trans e2).trans e3)), q.nx.mono (((e1.trans e2).trans e3)), back⟩⟩
  · have e' : i = xs.length := by omega
    subst e'
    exact .inl ⟨hstop _ (Nat.le_refl _), q.nx w2 σ2 H2 e s (e1.trans e2) r2 en2 (hd e s h2)⟩
def tWhile3 (tc : TT3) (tb : TS3) : TS3 := fun D env S => ∃ I : Nat → E3 → S3 → Prop, (∃ m, I m env S) ∧ ∀ m e s, I m e s → tc e s fun b s1 =>
  if b = true then tb { D with nx := Wk S.length fun e' s' => ∃ m', m' < m ∧ I m' e' s', ct := Wk S.length fun e' s' => ∃ m', m' < m ∧ I m' e' s', bk := D.nx } e s1 else D.nx e s1
theorem qs_while (hp : PassesOwn (model X.prog X.w) X.A X.env X.xe) (hc : QT X c tc) (hb : QSs X body tb) : QS X (.While c body [] pos) (tWhile3 tc tb) := (ps_while hp hc hb).imp fun D σ H ⟨w, env, S, D3, r0, en, t, q⟩ => by
  obtain ⟨I, ⟨m0, h0⟩, ht⟩ := t
  refine ⟨fun m σ H => ∃ w2 e s, Ex3 w w2 ∧ Rel3 X.K w2 H s ∧ EnvR X.K w2 σ e ∧ I m e s, ⟨m0, w, env, S, Ex3.refl _, r0, en, h0⟩, ?_⟩
  rintro m σ2 H2 ⟨w2, e, s, e2, r2, en2, h2⟩
  refine ⟨w2, e, s, _, r2, en2, ht m e s h2, fun w3 b H3 S3 e3 r3 t3 => ?_⟩
  cases b with
  | true =>
    rw [if_pos rfl] at t3 ⊢
    refine ⟨fun σ' H' => ∃ m', m' < m ∧ ∃ w' e' s', Ex3 w w' ∧ Rel3 X.K w' H' s' ∧ EnvR X.K w' σ' e' ∧ I m' e' s', fun σ' H' h => h, ?_⟩
    have back : EndN X.K w3 (Wk S.length fun e' s' => ∃ m', m' < m ∧ I m' e' s') fun σ' H' => ∃ m', m' < m ∧ ∃ w' e' s', Ex3 w w' ∧ Rel3 X.K w' H' s' ∧ EnvR X.K w' σ' e' ∧ I m' e' s' := fun w4 σ4 H4 e4 s4 x4 r4 en4 h4 => by
      obtain ⟨w5, e5, s5, a1, a2, a3, m', hm, a4⟩ := wk_low (w := w) (by rw [r0.len]; exact Nat.le_refl _) ((e2.trans e3).trans x4) r4 en4 h4
      exact ⟨m', hm, w5, e5, s5, a1, a2, a3, a4⟩
    exact ⟨w3, e, S3, _, r3, en2.mono e3, t3, ⟨back, q.rt.mono (e2.trans e3), q.nx.mono (e2.trans e3), back⟩⟩
  | false =>
    rw [if_neg Bool.false_ne_true] at t3 ⊢
    exact q.nx w3 σ2 H3 e S3 (e2.trans e3) r3 (en2.mono e3) t3
end

/-! ### comprehensions -/
def wipe3 (env : E3) : List Nat → E3
  | [] => env
  | v :: vs => clr (wipe3 env vs) v
where clr : E3 → Nat → E3
  | [], _ => []
  | _ :: r, 0 => none :: r
  | x :: r, n + 1 => x :: clr r n
theorem clr_length : ∀ (env : E3) (i : Nat), (wipe3.clr env i).length = env.length
  | [], _ => rfl
  | _ :: _, 0 => rfl
  | _ :: r, n + 1 => congrArg (· + 1) (clr_length r n)
theorem clr_at : ∀ (env : E3) (i j : Nat) (d : D), at3 (wipe3.clr env i) j = some d → at3 env j = some d ∧ j ≠ i
  | [], i, j, d, h => by simp [wipe3.clr, at3] at h
  | x :: r, 0, 0, d, h => by simp [wipe3.clr, at3] at h
  | x :: r, 0, j + 1, d, h => ⟨h, by simp⟩
  | x :: r, i + 1, 0, d, h => ⟨h, by simp⟩
  | x :: r, i + 1, j + 1, d, h => by
    obtain ⟨h1, h2⟩ := clr_at r i j d h
    exact ⟨h1, by omega⟩
theorem wipe3_length (env : E3) : ∀ vs, (wipe3 env vs).length = env.length
  | [] => rfl
  | v :: vs => by unfold wipe3; rw [clr_length, wipe3_length env vs]
theorem wipe3_at (env : E3) : ∀ (vs : List Nat) (j : Nat) (d : D), at3 (wipe3 env vs) j = some d → at3 env j = some d ∧ j ∉ vs
  | [], j, d, h => ⟨h, by simp⟩
  | v :: vs, j, d, h => by
    unfold wipe3 at h
    obtain ⟨h1, h2⟩ := clr_at _ _ _ _ h
    obtain ⟨h3, h4⟩ := wipe3_at env vs j d h1
    exact ⟨h3, by simp only [List.mem_cons, not_or]; exact ⟨h2, h4⟩⟩
theorem EnvR.wipe {K : PySem.W.Frag} {w : W3} {σ : L2.St} {env : E3} (h : EnvR K w σ env) (vs : List Nat) : EnvR K w (wipe σ vs) (wipe3 env vs) := by
  refine ⟨by rw [wipe_length, wipe3_length]; exact h.1, fun i d q => ?_⟩
  obtain ⟨h1, h2⟩ := wipe3_at env vs i d q
  obtain ⟨v, h3, h4⟩ := h.2 i d h1
  refine ⟨v, ?_, h4⟩
  rw [wipe_out h2]
  exact h3
def tLc3 (ti : TI3) (T : Tg) (tt : TT3) (te : TE3) (vs : List Nat) : TN3 := fun env S Q => ti env S fun xs ok S1 => ∃ I : Nat → List PyData → S3 → Prop, I 0 [] S1 ∧ (∀ i acc s, I i acc s → ok s) ∧
  (∀ i x acc s, xs[i]? = some x → I i acc s → match bind3 T x (wipe3 env vs) with
    | some e2 => tt e2 s fun b s1 => if b = true then te e2 s1 fun y s2 => match y with
        | .p d => I (i + 1) (acc ++ [d]) s2
        | _ => False
      else I (i + 1) acc s1
    | none => False) ∧ ∀ acc s, I xs.length acc s → Q acc s
def tYes3 : TT3 := fun _ S Q => Q true S
theorem lc_low {K : PySem.W.Frag} {ti : TI3} {T : Tg} {tt : TT3} {te : TE3} {vs : List Nat} {σ : L2.St} {H : Hp} {R : VK} (hv : ∀ i ∈ T.slots, i ∈ vs) (h : lowN K (tLc3 ti T tt te vs) σ H R) : tLc (lowI K ti) (g2 K T) (lowT K tt) (low K te) vs σ H R := by
  obtain ⟨w, env, S, Q, r0, en, t, q⟩ := h
  refine ⟨w, env, S, _, r0, en, t, fun w1 J H1 S1 xs ok e1 r1 hJ hz t1 => fun D hD => ?_⟩
  obtain ⟨I, h0, hok, hs, hd⟩ := t1
  refine ⟨fun i m H => i ≤ xs.length ∧ m = xs.length - i ∧ ∃ al h s acc ys, Ex0 w1 ⟨al, h, (D, .lst ys) :: w1.pn⟩ ∧ Rel3 K ⟨al, h, (D, .lst ys) :: w1.pn⟩ H s ∧ DpAll K h ys acc ∧ acc.length ≤ i ∧ I i acc s,
    ⟨_, Nat.zero_le _, rfl, w1.al, w1.h, S1, [], [], ⟨⟨[], by simp⟩, Same.refl _⟩, r1.pinNew hD, .nil, Nat.le_refl _, h0⟩, ?_⟩
  rintro i m H2 ⟨hi, rfl, al, h, s, acc, ys, e2, r2, da, hacc, h2⟩
  obtain ⟨hstop, hgo⟩ := hJ _ H2 s e2 r2 (hok i acc s h2)
  by_cases hlt : i < xs.length
  · obtain ⟨go, hy⟩ := hgo i xs[i] (List.getElem?_eq_getElem hlt)
    refine .inr ⟨go, fun H' => ∃ al h s acc ys, Ex0 w1 ⟨al, h, (D, .lst ys) :: w1.pn⟩ ∧ Rel3 K ⟨al, h, (D, .lst ys) :: w1.pn⟩ H' s ∧ DpAll K h ys acc ∧ acc.length ≤ i + 1 ∧ I (i + 1) acc s,
      fun H' ⟨al, h, s, acc, ys, a1, a2, a3, a4, a5⟩ => ⟨xs.length - (i + 1), by omega, hlt, rfl, al, h, s, acc, ys, a1, a2, a3, a4, a5⟩, fun x H' y => ?_⟩
    obtain ⟨w3, e3, r3, d3⟩ := hy x H' y
    have step := hs i xs[i] acc s (List.getElem?_eq_getElem hlt) h2
    cases hbd : bind3 T xs[i] (wipe3 env vs) with
    | none => rw [hbd] at step; exact step.elim
    | some env3 =>
      rw [hbd] at step
      have en3 : EnvR K w3 (wipe σ vs) (wipe3 env vs) := (((en.mono e1).mono0 e2).mono e3).wipe vs
      refine bind_low r3 vs T xs[i] x _ _ env3 hv en3 d3 hbd _ fun σ3 en4 hw => ⟨?_, ?_⟩
      · have ww : ∀ vs' : List Nat, (∀ i ∈ vs', i ∈ vs) → wipe (wipe σ vs) vs' = wipe σ vs := by
          intro vs'
          induction vs' with
          | nil => intro _; rfl
          | cons v vs' ih =>
            intro hsub
            show (wipe (wipe σ vs) vs').set v none = wipe σ vs
            rw [ih fun i hi => hsub i (List.mem_cons_of_mem _ hi)]
            have : ∀ (vs : List Nat), v ∈ vs → (wipe σ vs).set v none = wipe σ vs := by
              intro vs
              induction vs with
              | nil => intro h; cases h
              | cons u vs ih =>
                intro hm
                show ((wipe σ vs).set u none).set v none = (wipe σ vs).set u none
                by_cases e : v = u
                · subst e
                  rw [List.set_set]
                · have hm' : v ∈ vs := (List.mem_cons.mp hm).resolve_left e
                  rw [List.set_comm _ _ (Ne.symm e), ih hm']
            exact this vs (hsub v List.mem_cons_self)
        exact hw.trans (ww vs fun _ h => h)
      · refine ⟨w3, env3, s, _, r3, en4, step, fun w4 b H4 s4 e4 r4 t4 => ?_⟩
        obtain ⟨al4, h4, pn4⟩ := w4
        have hpn : pn4 = (D, .lst ys) :: w1.pn := by
          have a := e4.pn
          have b := e3.pn
          exact a.trans b
        subst hpn
        have e24 : Ex0 w1 ⟨al4, h4, (D, .lst ys) :: w1.pn⟩ := (e2.trans e3.toEx0).trans e4.toEx0
        cases b with
        | false =>
          rw [if_neg Bool.false_ne_true] at t4 ⊢
          exact ⟨al4, h4, s4, acc, ys, e24, r4, dpAll_mono (e3.h.trans e4.h) acc ys da, by omega, t4⟩
        | true =>
          rw [if_pos rfl] at t4 ⊢
          refine ⟨_, env3, s4, _, r4, en4.mono e4, t4, fun w5 v d H5 s5 e5 r5 p5 t5 => ?_⟩
          obtain ⟨al5, h5, pn5⟩ := w5
          have hpn : pn5 = (D, .lst ys) :: w1.pn := e5.pn
          subst hpn
          cases d with
          | loc n => exact t5.elim
          | p d =>
            have hl := DpAll.length da
            refine ⟨ys, (r5.pin D _ List.mem_cons_self).1, by omega, al5, h5, s5, acc ++ [d], ys ++ [v], ?_, r5.repin, ?_, ?_, t5⟩
            · exact ⟨(e24.trans e5.toEx0).al, (e24.trans e5.toEx0).h⟩
            · exact DpAll.append (dpAll_mono ((e3.h.trans e4.h).trans e5.h) acc ys da) (.cons p5 .nil)
            · rw [List.length_append, List.length_singleton]
              omega
  · have e' : i = xs.length := by omega
    subst e'
    obtain ⟨r3, hdn, hup⟩ := r2.unpin
    refine .inl ⟨hstop _ (Nat.le_refl _), ?_⟩
    rw [← hup]
    refine q ⟨al, h, w1.pn⟩ D ys acc _ s (e1.trans ⟨⟨e2.al, e2.h⟩, rfl⟩) r3 hdn da ?_ (hd acc s h2)
    omega
section
variable {X : Cx} {elt tg iter : Expr} {ifs : List Expr} {scope : Scope} {own : List (Str × Nat)} {pos : Pos} {ti : TI3} {T : Tg} {tt : TT3} {te : TE3}
abbrev QTs (X : Cx) (ifs : List Expr) (t : TT3) : Prop := PTs X ifs (lowT X.K t)
theorem qts_nil : QTs X [] tYes3 := ⟨fun pins s σ H Q I ⟨w, env, S, Q3, r0, en, t, q⟩ => pts_nil.run pins s σ H Q I (q w true H S (Ex3.refl w) r0 t)⟩
theorem qts_one {c : Expr} {t : TT3} (h : QT X c t) : QTs X [c] t := pts_one h
theorem qn_lc (hc : X.calm = true) (hN : X.N.Nodup) (hi : QI X tg iter ti) (ok : BlkOk X.N X.env.scope scope own)
    (hg : ∀ (s : Shared) (H : Hp) (C : Addr) (cl : List (Str × Addr)) (fp : List Addr), QB (X.blk s H scope (compEnvC scope cl C X.env) fp) tg T) (ht : ∀ (s : Shared) (H : Hp) (C : Addr) (cl : List (Str × Addr)) (fp : List Addr), QTs (X.blk s H scope (compEnvC scope cl C X.env) fp) ifs tt)
    (he : ∀ (s : Shared) (H : Hp) (C : Addr) (cl : List (Str × Addr)) (fp : List Addr), QE (X.blk s H scope (compEnvC scope cl C X.env) fp) elt te) (hv : ∀ i ∈ T.slots, i ∈ own.map (·.2) := by decide) (hs : ∀ x, foldedSetIterable iter X.env x = pure x := by intro _; rfl) :
    QN X (.ListComp elt [⟨tg, iter, ifs, 0⟩] scope pos) (tLc3 ti T tt te (own.map (·.2))) := (pe_lc hc hN hi ok hg ht he hs).imp fun σ H R h => lc_low hv h
/-- name = [..], the name a local -/
theorem qs_setLcP {i : Nat} {y : Str} {py spos : Pos} (hc : X.calm = true) (hN : X.N.Nodup) (hy : X.N[i]? = some y) (hyl : X.env.scope.names.lookup y = some .local)
    (hsw : swapsWith (.ListComp elt [⟨tg, iter, ifs, 0⟩] scope pos) (some (.Name y py)) spos.line X.env = pure true) (hi : QI X tg iter ti) (ok : BlkOk X.N X.env.scope scope own)
    (hg : ∀ (s : Shared) (H : Hp) (C : Addr) (cl : List (Str × Addr)) (fp : List Addr), QB (X.blk s H scope (compEnvC scope cl C X.env) fp) tg T) (ht : ∀ (s : Shared) (H : Hp) (C : Addr) (cl : List (Str × Addr)) (fp : List Addr), QTs (X.blk s H scope (compEnvC scope cl C X.env) fp) ifs tt)
    (he : ∀ (s : Shared) (H : Hp) (C : Addr) (cl : List (Str × Addr)) (fp : List Addr), QE (X.blk s H scope (compEnvC scope cl C X.env) fp) elt te) (hv : ∀ i ∈ T.slots, i ∈ own.map (·.2) := by decide) (hs : ∀ x, foldedSetIterable iter X.env x = pure x := by intro _; rfl) :
    QS X (.Assign [.Name y py] (.ListComp elt [⟨tg, iter, ifs, 0⟩] scope pos) spos) (tSet3 i (tPure (tLc3 ti T tt te (own.map (·.2))))) := (ps_setLc hc hN hy hyl hsw hi ok hg ht he hs).imp fun D σ H ⟨w, env, S, D3, r0, en, t, q⟩ => by
  refine lc_low (R := fun x H1 => gName i x σ H1 D.nx) hv ⟨w, env, S, _, r0, en, t, fun w1 p xs ds H1 S1 e1 r1 hn ha hz t1 => ?_⟩
  have hl := DpAll.length ha
  obtain ⟨r2, e2⟩ := r1.frz (u := .lst xs) hn (by show xs.length ≤ _; rw [hl]; exact hz)
  exact q.nx _ _ _ _ S1 (e1.trans e2) r2 (((en.mono e1).mono e2).set (d := .p (.list ds)) i (Dp.lst (.inl (.inl upd_same)) (dpAll_mono e2.h ds xs ha))) t1
theorem qs_setLcO {i : Nat} {y : Str} {py spos : Pos} (hc : X.calm = true) (hN : X.N.Nodup) (hy : X.N[i]? = some y) (hyl : X.env.scope.names.lookup y = some .local)
    (hsw : swapsWith (.ListComp elt [⟨tg, iter, ifs, 0⟩] scope pos) (some (.Name y py)) spos.line X.env = pure true) (hi : QI X tg iter ti) (ok : BlkOk X.N X.env.scope scope own)
    (hg : ∀ (s : Shared) (H : Hp) (C : Addr) (cl : List (Str × Addr)) (fp : List Addr), QB (X.blk s H scope (compEnvC scope cl C X.env) fp) tg T) (ht : ∀ (s : Shared) (H : Hp) (C : Addr) (cl : List (Str × Addr)) (fp : List Addr), QTs (X.blk s H scope (compEnvC scope cl C X.env) fp) ifs tt)
    (he : ∀ (s : Shared) (H : Hp) (C : Addr) (cl : List (Str × Addr)) (fp : List Addr), QE (X.blk s H scope (compEnvC scope cl C X.env) fp) elt te) (hv : ∀ i ∈ T.slots, i ∈ own.map (·.2) := by decide) (hs : ∀ x, foldedSetIterable iter X.env x = pure x := by intro _; rfl) :
    QS X (.Assign [.Name y py] (.ListComp elt [⟨tg, iter, ifs, 0⟩] scope pos) spos) (tSet3 i (tOwn (tLc3 ti T tt te (own.map (·.2))))) := (ps_setLc hc hN hy hyl hsw hi ok hg ht he hs).imp fun D σ H ⟨w, env, S, D3, r0, en, t, q⟩ => by
  refine lc_low (R := fun x H1 => gName i x σ H1 D.nx) hv ⟨w, env, S, _, r0, en, t, fun w1 p xs ds H1 S1 e1 r1 hn ha hz t1 => ?_⟩
  obtain ⟨r2, e2⟩ := r1.push (u := .lst xs) (o := .lst ds) hn ⟨xs, rfl, ha, hz⟩
  refine q.nx _ _ _ _ _ (e1.trans e2) r2 (((en.mono e1).mono e2).set (d := .loc S1.length) i ⟨p, ?_, rfl⟩) t1
  show (w1.al ++ [p])[S1.length]? = some p
  rw [← r1.len, List.getElem?_append_right (Nat.le_refl _)]
  simp
end
end L3

namespace L3
open PySem PySem.Spec PyProof.Rows L2
/-! ### defs -/
abbrev Sp3 := List D → S3 → K3 → Prop
/-- a def that keeps a promise over trees -/
structure Ok3 (P : Program) (w : World) (K : PySem.W.Frag) (mg : Str → Option Value) (base : Heap) (k : Nat) (x : Str) (sp : Sp3) : Prop where
  ex : ∃ f fd ps, mg x = some (.ref f) ∧ PySem.W.keepIn K (.ref f) = true ∧ Binds K fd ps [] ∧ FnOk P w K mg base CX0 k f fd ps (fun vs H Q _ => lowC K sp vs H Q)
section
variable {X : Cx} {e : Expr} {es : List Expr} {tr : TA3} {p pos : Pos} {x : Str} {k : Nat} {sp : Sp3}
theorem qe_call (F : Ok3 X.prog X.w X.K X.mg X.base k x sp) (hr : Room k X.A) (hg : Gl X x) (ha : QA X (e :: es) tr) (hdb : (x == ("__debug__" : Str)) = false := by decide) (he : starEach (e :: es) X.env = (false, eval e X.env) :: starEach es X.env := by rfl) (hpl : (backTo pos (starEach es X.env)).any (·.1) = false := by rfl) :
    QE X (.Call (.Name x p) (e :: es) [] pos) (tCB3 sp tr) := by
  obtain ⟨f, fd, ps, hm, kp, b, ok⟩ := F.ex
  refine (pe_call ok hr hg hm kp b .nil pass0 ha hdb he hpl).imp fun σ H R h => ?_
  show lowA X.K tr σ H fun vs H1 => lowC X.K sp (vs ++ []) H1 R
  have := lowCB h
  obtain ⟨w, env, S, Q, r0, en, t, q⟩ := this
  refine ⟨w, env, S, Q, r0, en, t, fun w1 vs ds H1 S1 e1 r1 p1 t1 => ?_⟩
  show lowC X.K sp (vs ++ []) H1 R
  rw [List.append_nil]
  exact q w1 vs ds H1 S1 e1 r1 p1 t1
end
/-- a def's answer: the store's last objects (those made within) are forgotten, but for what is handed back -/
def Fin3 (S : S3) (Q : K3) : K3 := fun d S' => ∃ L, S.length ≤ L ∧ below L d ∧ Q d (S'.take L)
theorem fin_p {S : S3} {Q : K3} {d : PyData} (h : Q (.p d) S) : Fin3 S Q (.p d) S := ⟨S.length, Nat.le_refl _, trivial, by rw [List.take_length]; exact h⟩
theorem fin_app {S T : S3} {Q : K3} {d : PyData} (h : Q (.p d) S) : Fin3 S Q (.p d) (S ++ T) := ⟨S.length, Nat.le_refl _, trivial, by rw [List.take_left]; exact h⟩
theorem fin_of {S S' : S3} {Q : K3} {d : PyData} (e : S'.take S.length = S) (h : Q (.p d) S) : Fin3 S Q (.p d) S' := ⟨S.length, Nat.le_refl _, trivial, by rw [e]; exact h⟩
theorem fin_all {S S' : S3} {Q : K3} {d : D} (hl : S.length ≤ S'.length) (hb : below S'.length d) (h : Q d S') : Fin3 S Q d S' := ⟨S'.length, hl, hb, by rw [List.take_length]; exact h⟩
theorem fin_new {S : S3} {o : Option O3} {Q : K3} (h : Q (.loc S.length) (S ++ [o])) : Fin3 S Q (.loc S.length) (S ++ [o]) := fin_all (by simp) (by show _ < _; simp) h
def env0 (n : Nat) (ds : List D) : E3 := ds.map some ++ List.replicate (n - ds.length) none
theorem at3_app : ∀ (ds : List D) (r : E3) (i : Nat), at3 (ds.map some ++ r) i = if i < ds.length then ds[i]? else at3 r (i - ds.length)
  | [], r, i => by simp [at3]
  | d :: ds, r, 0 => by simp [at3]
  | d :: ds, r, i + 1 => by
    show at3 (ds.map some ++ r) i = _
    rw [at3_app ds r i]
    simp
theorem at3_none : ∀ (n i : Nat), at3 (List.replicate n none) i = none
  | 0, _ => rfl
  | n + 1, 0 => rfl
  | n + 1, i + 1 => at3_none n i
theorem repDs_get {K : PySem.W.Frag} {w : W3} : ∀ {vs : List V} {ds : List D} {i : Nat} {d : D}, RepDs K w vs ds → ds[i]? = some d → ∃ v, vs[i]? = some v ∧ RepD K w v d
  | v :: vs, d :: ds, 0, e, h, q => by simp at q; subst q; exact ⟨v, rfl, h.1⟩
  | v :: vs, d :: ds, i + 1, e, h, q => by
    obtain ⟨u, h1, h2⟩ := repDs_get (i := i) h.2 (by simpa using q)
    exact ⟨u, by simpa using h1, h2⟩
  | [], [], i, e, h, q => by simp at q
  | [], _ :: _, _, _, h, _ => h.elim
  | _ :: _, [], _, _, h, _ => h.elim
theorem env_start {K : PySem.W.Frag} {w : W3} {vs : List V} {ds : List D} {N : List Str} (h : RepDs K w vs ds) : EnvR K w (L2.start N vs) (env0 N.length ds) := by
  have hl := RepDs.length h
  unfold L2.start env0
  refine ⟨by simp [hl], fun i d q => ?_⟩
  rw [at3_app] at q
  by_cases hi : i < ds.length
  · rw [if_pos hi] at q
    obtain ⟨v, h1, h2⟩ := repDs_get h q
    refine ⟨v, ?_, h2⟩
    rw [List.getElem?_append_left (by simp; omega), List.getElem?_map, h1]
    rfl
  · rw [if_neg hi, at3_none] at q
    cases q
section
variable {P : Program} {w : World} {K : PySem.W.Frag} {mg : Str → Option Value} {base : Heap}
/-- THE RULE for a def -/
theorem Ok3.fnOk {x : Str} {st : Stmt} {f : Addr} {fd : FuncData} {N ps : List Str} {k : Nat} {sp : Sp3} {t3 : TS3} (F : Fun K x x st f fd) (b : Binds K fd ps []) (sc : FnScope N ps (defScope st))
    (hlen : ∀ ds S Q, sp ds S Q → ds.length = ps.length)
    (body : ∀ (cdv : Value) (A : Around) (outer : List Env) (s : Shared) (H : Hp) (E : XK), Room k (A.deeper (envOfC x (defScope st) s.heap.objs.size f cdv)) → QSs (cxOf CX0 P w K mg base N x (defScope st) f cdv A outer s H E).nox (defBody st) t3)
    (read : ∀ ds S Q, sp ds S Q → t3 { nx := fun _ S' => Fin3 S Q (.p .none) S', rt := Fin3 S Q } (env0 N.length ds) S) : FnOk P w K mg base CX0 (k + 1) f fd ps (fun vs H Q _ => lowC K sp vs H Q) := by
  refine F.ok sc (fun vs H Q E h => ?_) (fun cdv A outer s H vs Q E hr h => ?_)
  · obtain ⟨w3, S, ds, Q3, r, rd, hs, q⟩ := h
    rw [RepDs.length rd]
    exact hlen ds S Q3 hs
  · obtain ⟨w3, S, ds, Q3, r, rd, hs, q⟩ := h
    refine ⟨_, body cdv A outer s H E hr, ?_⟩
    have fin : ∀ (w4 : W3) (v : V) (d : D) (H' : Hp) (S' : S3), Ex3 w3 w4 → Rel3 K w4 H' S' → RepD K w4 v d → Fin3 S Q3 d S' → Q v H' := fun w4 v d H' S' e4 r4 p4 ⟨L, hL, hb, h4⟩ => by
      refine q ⟨w4.al.take L, w4.h, w4.pn⟩ v d H' (S'.take L) ⟨⟨?_, e4.h⟩, e4.pn⟩ (r4.shrink L) ?_ h4
      · obtain ⟨t, ht⟩ := e4.al
        refine ⟨t.take (L - w3.al.length), ?_⟩
        show w4.al.take L = _
        rw [ht, List.take_append, List.take_of_length_le (by rw [r.len]; exact hL)]
      · cases d with
        | p d => exact p4
        | loc m =>
          obtain ⟨a, h5, h6⟩ := p4
          exact ⟨a, by show (w4.al.take L)[m]? = _; rw [List.getElem?_take_of_lt hb]; exact h5, h6⟩
    exact ⟨w3, _, S, _, r, env_start rd, read ds S Q3 hs, ⟨fun w4 σ' H' env' S' e4 r4 _ h4 => fin w4 .non (.p .none) H' S' e4 r4 rep_non h4, fun w4 v d H' S' e4 r4 p4 h4 => fin w4 v d H' S' e4 r4 p4 h4,
      fun _ _ _ _ _ _ _ _ h => h.elim, fun _ _ _ _ _ _ _ _ h => h.elim⟩⟩
theorem Ok3.mk' {x : Str} {st : Stmt} {f : Addr} {fd : FuncData} {N ps : List Str} {k : Nat} {sp : Sp3} {t3 : TS3} (F : Fun K x x st f fd) (hm : mg x = some (.ref f)) (b : Binds K fd ps []) (sc : FnScope N ps (defScope st))
    (hlen : ∀ ds S Q, sp ds S Q → ds.length = ps.length)
    (body : ∀ (cdv : Value) (A : Around) (outer : List Env) (s : Shared) (H : Hp) (E : XK), Room k (A.deeper (envOfC x (defScope st) s.heap.objs.size f cdv)) → QSs (cxOf CX0 P w K mg base N x (defScope st) f cdv A outer s H E).nox (defBody st) t3)
    (read : ∀ ds S Q, sp ds S Q → t3 { nx := fun _ S' => Fin3 S Q (.p .none) S', rt := Fin3 S Q } (env0 N.length ds) S) : Ok3 P w K mg base (k + 1) x sp :=
  ⟨f, fd, ps, hm, F.kp, b, Ok3.fnOk F b sc hlen body read⟩
end

/-! ### operators -/
theorem opq {X : Cx} {f : Value → Value → Sem Value} {r2 : R2} {r : R3} (h : OpR X f r2) (i : ∀ w S d e (x y : V) (H : Hp) (Q : K3) (R : VK), Rel3 X.K w H S → RepD X.K w x d → RepD X.K w y e → r d e S Q → EndE X.K w Q R → r2 x y H R) : OQ X f r :=
  OpR.imp h fun x y H R ⟨w, S, d, e, Q, r0, p1, p2, t, q⟩ => i w S d e x y H Q R r0 p1 p2 t q
theorem callq {X : Cx} {f : Value} {r2 : List V → Hp → VK → Prop} {r : C3} (h : CallR X f r2) (i : ∀ w S ds (xs : List V) (H : Hp) (Q : K3) (R : VK), Rel3 X.K w H S → RepDs X.K w xs ds → r ds S Q → EndE X.K w Q R → r2 xs H R) : CQ X f r :=
  CallR.imp h fun xs H R ⟨w, S, ds, Q, r0, p1, t, q⟩ => i w S ds xs H Q R r0 p1 t q
section
variable {X : Cx} {K : PySem.W.Frag} {w : W3} {H : Hp} {S : S3} {Q : K3} {R : VK}
theorem EndE.int (q : EndE K w Q R) (r : Rel3 K w H S) {i : Int} (h : Q (.p (.int i)) S) : R (.int i) H := q w _ _ H S (Ex3.refl w) r rep_int h
theorem EndE.bl (q : EndE K w Q R) (r : Rel3 K w H S) {i : Bool} (h : Q (.p (.bool i)) S) : R (.bl i) H := q w _ _ H S (Ex3.refl w) r rep_bl h
theorem EndE.str (q : EndE K w Q R) (r : Rel3 K w H S) {i : Str} (h : Q (.p (.str i)) S) : R (.str i) H := q w _ _ H S (Ex3.refl w) r rep_str h
theorem EndE.old (q : EndE K w Q R) (r : Rel3 K w H S) {v : V} {d : D} (hd : RepD K w v d) (h : Q d S) : R v H := q w _ _ H S (Ex3.refl w) r hd h
theorem EndE.tup (q : EndE K w Q R) (r : Rel3 K w H S) {vs : List V} {ds : List PyData} (ha : DpAll K w.h vs ds) (hz : ds.length ≤ sizeLine) (h : Q (.p (.tuple ds)) S) : ∀ p, H p = none → R (.ref p) (upd H p (.tup vs)) := fun p hn => by
  obtain ⟨r2, e2⟩ := r.frz (u := .tup vs) hn (by show vs.length ≤ _; rw [DpAll.length ha]; exact hz)
  exact q _ (.ref p) (.p (.tuple ds)) _ S e2 r2 (Dp.tup (.inl (.inl upd_same)) (dpAll_mono e2.h ds vs ha)) h
theorem EndE.lst (q : EndE K w Q R) (r : Rel3 K w H S) {vs : List V} {ds : List PyData} (ha : DpAll K w.h vs ds) (hz : ds.length ≤ sizeLine) (h : Q (.p (.list ds)) S) : ∀ p, H p = none → R (.ref p) (upd H p (.lst vs)) := fun p hn => by
  obtain ⟨r2, e2⟩ := r.frz (u := .lst vs) hn (by show vs.length ≤ _; rw [DpAll.length ha]; exact hz)
  exact q _ (.ref p) (.p (.list ds)) _ S e2 r2 (Dp.lst (.inl (.inl upd_same)) (dpAll_mono e2.h ds vs ha)) h
end
/-- ints in, an int out -/
def rInt (C : Int → Int → Prop) (g : Int → Int → PyData) : R3 := fun x y S Q => match x, y with
  | .p (.int i), .p (.int j) => C i j ∧ Q (.p (g i j)) S
  | _, _ => False
def rInt0 (g : Int → Int → PyData) : R3 := fun x y S Q => match x, y with
  | .p (.int i), .p (.int j) => Q (.p (g i j)) S
  | _, _ => False
theorem rint_inv {C : Int → Int → Prop} {g : Int → Int → PyData} {x y : D} {S : S3} {Q : K3} (h : rInt C g x y S Q) : ∃ i j, x = .p (.int i) ∧ y = .p (.int j) ∧ C i j ∧ Q (.p (g i j)) S := by
  unfold rInt at h
  split at h
  · exact ⟨_, _, rfl, rfl, h⟩
  · exact h.elim
theorem rint0_inv {g : Int → Int → PyData} {x y : D} {S : S3} {Q : K3} (h : rInt0 g x y S Q) : ∃ i j, x = .p (.int i) ∧ y = .p (.int j) ∧ Q (.p (g i j)) S := by
  unfold rInt0 at h
  split at h
  · exact ⟨_, _, rfl, rfl, h⟩
  · exact h.elim
section
variable {X : Cx}
theorem oq_int {f : Value → Value → Sem Value} {C : Int → Int → Prop} {g : Int → Int → Int} (h : OpR X f (rI C fun i j => .int (g i j))) : OQ X f (rInt C fun i j => .int (g i j)) := opq h fun w S d e x y H Q R r0 p1 p2 t q => by
  obtain ⟨i, j, rfl, rfl, hc, t⟩ := rint_inv t
  exact ⟨i, j, dp_int p1, dp_int p2, hc, q.int r0 t⟩
theorem oq_int0 {f : Value → Value → Sem Value} {g : Int → Int → Int} (h : OpR X f (rI0 fun i j => .int (g i j))) : OQ X f (rInt0 fun i j => .int (g i j)) := opq h fun w S d e x y H Q R r0 p1 p2 t q => by
  obtain ⟨i, j, rfl, rfl, t⟩ := rint0_inv t
  exact ⟨i, j, dp_int p1, dp_int p2, q.int r0 t⟩
theorem oq_bool0 {f : Value → Value → Sem Value} {g : Int → Int → Bool} (h : OpR X f (rI0 fun i j => .bl (g i j))) : OQ X f (rInt0 fun i j => .bool (g i j)) := opq h fun w S d e x y H Q R r0 p1 p2 t q => by
  obtain ⟨i, j, rfl, rfl, t⟩ := rint0_inv t
  exact ⟨i, j, dp_int p1, dp_int p2, q.bl r0 t⟩
/-! #### sums -/
theorem op_catL : OpR X (binaryOp .Add) (fun x y H Q => ∃ a b xs ys, x = .ref a ∧ y = .ref b ∧ SqL X.K H a xs ∧ SqL X.K H b ys ∧ xs.length + ys.length ≤ sizeLine ∧ ∀ p, H p = none → Q (.ref p) (upd H p (.lst (xs ++ ys)))) := by
  intro pins s σ H x y v u Q I rx ry h
  obtain ⟨l, b, xs, zs, rfl, rfl, hH, hB, hz, q⟩ := h
  cases rx
  cases ry
  obtain ⟨its, r, p1, z1⟩ := I.list hH
  obtain ⟨its2, r2, p2, z2⟩ := I.list hB
  have hl := r.length
  have hl2 := r2.length
  obtain ⟨⟨cls, dd, data, sl⟩, ho, hc, n, hd⟩ := id p1.isList
  obtain ⟨⟨cls2, dd2, data2, sl2⟩, ho2, hc2, n2, hd2⟩ := id p2.isList
  simp only at hc hd hc2 hd2
  subst hc hd hc2 hd2
  refine PySem.concat_meets ⟨_, ho, rfl⟩ ⟨_, ho2, rfl⟩ noFill_list_add seq_list_add PySem.F.slot_list_add PySem.F.entry_list_add (PySem.F.args_list_add_2 _ _) (list_addW l b its.toArray its2.toArray n n2 dd dd2 sl sl2 (by simp; omega)) ⟨ho, ho2, ?_⟩
  have ea : its.toArray ++ its2.toArray = (its ++ its2).toArray := by simp
  rw [ea]
  have hn : H s.heap.objs.size = none := I.hok.fresh (Nat.le_refl _)
  exact ⟨.ref s.heap.objs.size, _, I.laid (t' := s.toks) (o := .lst (xs ++ zs)) (fun b ob q => Heap.get?_push_of_some _ q) (Nat.le_refl _) ⟨by rw [List.length_append]; exact hz, _, _, r.append r2, Heap.get?_push_size _ rfl⟩, rfl, q _ hn⟩
end
/-- the items of a list: as it stands for ever, or of the store -/
def lst3 (S : S3) : D → Option (List PyData)
  | .p (.list ds) => some ds
  | .loc n => match S[n]? with
    | some (some (.lst ds)) => some ds
    | _ => none
  | _ => none
theorem lst3_low {K : PySem.W.Frag} {w : W3} {H : Hp} {S : S3} {v : V} {d : D} {ds : List PyData} (r : Rel3 K w H S) (p : RepD K w v d) (h : lst3 S d = some ds) : ∃ a xs, v = .ref a ∧ SqL K H a xs ∧ DpAll K w.h xs ds ∧ ds.length ≤ sizeLine := by
  unfold lst3 at h
  split at h
  · cases h
    obtain ⟨a, xs, rfl, hq, ha⟩ := dp_list_ref p
    exact ⟨a, xs, rfl, L2.Same.seq r.sub hq, ha, len_list r p⟩
  · rename_i n
    split at h
    · rename_i es hs
      cases h
      obtain ⟨a, ha, rfl⟩ := p
      obtain ⟨_, u, hu, xs, rfl, hd, hz⟩ := r.live n a _ ha hs
      exact ⟨a, xs, rfl, .inl (.inl hu), hd, hz⟩
    · cases h
  · cases h
/-- the items of a list or a tuple -/
def seq3 (S : S3) : D → Option (List PyData)
  | .p (.tuple ds) => some ds
  | d => lst3 S d
theorem seq3_low {K : PySem.W.Frag} {w : W3} {H : Hp} {S : S3} {v : V} {d : D} {ds : List PyData} (r : Rel3 K w H S) (p : RepD K w v d) (h : seq3 S d = some ds) : ∃ a xs, v = .ref a ∧ (SqL K H a xs ∨ SqT K H a xs) ∧ DpAll K w.h xs ds ∧ ds.length ≤ sizeLine := by
  unfold seq3 at h
  split at h
  · cases h
    obtain ⟨a, xs, rfl, hq, ha⟩ := dp_tup_ref p
    exact ⟨a, xs, rfl, .inr (Same.sqT r.sub hq), ha, len_tup r p⟩
  · obtain ⟨a, xs, h1, h2, h3⟩ := lst3_low r p h
    exact ⟨a, xs, h1, .inl h2, h3⟩
def rAdd3 : R3 := fun x y S Q => match x, y with
  | .p (.int i), .p (.int j) => Q (.p (.int (i + j))) S
  | .p (.tuple a), .p (.tuple b) => a.length + b.length ≤ 16777216 ∧ Q (.p (.tuple (a ++ b))) S
  | .p (.str a), .p (.str b) => a.length + b.length ≤ 16777216 ∧ Q (.p (.str (a ++ b))) S
  | a, b => match lst3 S a, lst3 S b with
    | some ds, some es => ds.length + es.length ≤ 16777216 ∧ Q (.p (.list (ds ++ es))) S
    | _, _ => False
section
variable {X : Cx}
theorem oq_add : OQ X (binaryOp .Add) rAdd3 := opq (op_add.or (op_catA.or (op_add_str.or op_catL))) fun w S d e x y H Q R r0 p1 p2 t q => by
  have hz : sizeLine = 16777216 := sizeLine_eq
  unfold rAdd3 at t
  split at t
  · exact .inl ⟨_, _, dp_int p1, dp_int p2, q.int r0 t⟩
  · rename_i a b
    refine .inr (.inl ?_)
    obtain ⟨l, xs, rfl, hq, ha⟩ := dp_tup_ref p1
    obtain ⟨m, ys, rfl, hq2, ha2⟩ := dp_tup_ref p2
    have hl := DpAll.length ha
    have hl2 := DpAll.length ha2
    refine ⟨l, m, xs, ys, rfl, rfl, Same.sqT r0.sub hq, Same.sqT r0.sub hq2, by omega, fun z => ?_, fun _ z => ?_, fun _ _ => q.tup r0 (DpAll.append ha ha2) (by rw [List.length_append]; omega) t.2⟩
    · subst z
      cases ha
      exact q.old r0 p2 t.2
    · subst z
      cases ha2
      have t2 := t.2
      rw [List.append_nil] at t2
      exact q.old r0 p1 t2
  · exact .inr (.inr (.inl ⟨_, _, dp_str p1, dp_str p2, by omega, q.str r0 t.2⟩))
  · split at t
    · rename_i ds es h1 h2
      obtain ⟨l, xs, rfl, hq, ha, _⟩ := lst3_low r0 p1 h1
      obtain ⟨m, ys, rfl, hq2, ha2, _⟩ := lst3_low r0 p2 h2
      have hl := DpAll.length ha
      have hl2 := DpAll.length ha2
      exact .inr (.inr (.inr ⟨l, m, xs, ys, rfl, rfl, hq, hq2, by omega, q.lst r0 (DpAll.append ha ha2) (by rw [List.length_append]; omega) t.2⟩))
    · exact t.elim
/-- a product of ints: one of them below 2 ^ 64, or both together below a million bits -/
def MulOk (i j : Int) : Prop := (-18446744073709551616 < i ∧ i < 18446744073709551616) ∨ (-18446744073709551616 < j ∧ j < 18446744073709551616) ∨ CMulW i j
def DivOk (_ j : Int) : Prop := 0 < j ∧ (j < 18446744073709551616 ∨ j.natAbs.log2 < 9000)
def PowOk (i j : Int) : Prop := 0 ≤ j ∧ j ≤ 1000000 ∧ -18446744073709551616 < i ∧ i < 18446744073709551616
def rSub3 : R3 := rInt0 fun i j => .int (i - j)
def rMul3 : R3 := rInt MulOk fun i j => .int (i * j)
def rMod3 : R3 := rInt (fun _ j => 0 < j) fun i j => .int (i % j)
def rDiv3 : R3 := rInt DivOk fun i j => .int (i / j)
def rPow3 : R3 := rInt PowOk fun i j => .int (i ^ j.toNat)
theorem oq_sub : OQ X (binaryOp .Sub) rSub3 := oq_int0 op_sub
theorem oq_mul : OQ X (binaryOp .Mult) rMul3 := opq (op_mul.or op_mulW) fun w S d e x y H Q R r0 p1 p2 t q => by
  obtain ⟨i, j, rfl, rfl, hc, t⟩ := rint_inv t
  rcases hc with hc | hc | hc
  · exact .inl ⟨i, j, dp_int p1, dp_int p2, .inl (by omega), q.int r0 t⟩
  · exact .inl ⟨i, j, dp_int p1, dp_int p2, .inr (by omega), q.int r0 t⟩
  · exact .inr ⟨i, j, dp_int p1, dp_int p2, hc, q.int r0 t⟩
theorem oq_mod : OQ X (binaryOp .Mod) rMod3 := oq_int op_mod
theorem DivOk.log {i j : Int} (h : DivOk i j) : CDivW i j := by
  rcases h with ⟨h0, hc | hc⟩
  · refine wide_div (b := 64) h0 ?_ (by decide) (by decide)
    omega
  · exact ⟨h0, hc⟩
theorem oq_div : OQ X (binaryOp .FloorDiv) rDiv3 := opq op_fdivW fun w S d e x y H Q R r0 p1 p2 t q => by
  obtain ⟨i, j, rfl, rfl, hc, t⟩ := rint_inv t
  exact ⟨i, j, dp_int p1, dp_int p2, hc.log, q.int r0 t⟩
theorem oq_pow : OQ X (binaryOp .Pow) rPow3 := opq op_pow fun w S d e x y H Q R r0 p1 p2 t q => by
  obtain ⟨i, j, rfl, rfl, ⟨h0, h1, h2, h3⟩, t⟩ := rint_inv t
  exact ⟨i, j, dp_int p1, dp_int p2, ⟨h0, h1, by omega⟩, q.int r0 t⟩
def rLt3 : R3 := rInt0 fun i j => .bool (decide (i < j))
def rLe3 : R3 := rInt0 fun i j => .bool (decide (i ≤ j))
def rGt3 : R3 := rInt0 fun i j => .bool (decide (j < i))
def rGe3 : R3 := rInt0 fun i j => .bool (decide (j ≤ i))
theorem oq_lt : OQ X (compareOp .Lt) rLt3 := oq_bool0 op_lt
theorem oq_le : OQ X (compareOp .LtE) rLe3 := oq_bool0 op_le
theorem oq_gt : OQ X (compareOp .Gt) rGt3 := oq_bool0 op_gt
theorem oq_ge : OQ X (compareOp .GtE) rGe3 := oq_bool0 op_ge
/-- == of data -/
def rEq3 : R3 := fun x y S Q => match x, y with
  | .p d, .p e => (SeqAt.shaped d = true ∧ SeqAt.shaped e = true) ∧ Q (.p (.bool (PyData.eqv d e))) S
  | _, _ => False
def rNe3 : R3 := fun x y S Q => match x, y with
  | .p d, .p e => (SeqAt.shaped d = true ∧ SeqAt.shaped e = true) ∧ Q (.p (.bool (!PyData.eqv d e))) S
  | _, _ => False
theorem oq_eq (hu : X.A.units + 64 < cLine) : OQ X (compareOp .Eq) rEq3 := opq (op_eqD hu) fun w S d e x y H Q R r0 p1 p2 t q => by
  unfold rEq3 at t
  split at t
  · exact ⟨_, _, dp_mono r0.sub _ _ p1, dp_mono r0.sub _ _ p2, t.1.1, t.1.2, q.bl r0 t.2⟩
  · exact t.elim
theorem oq_ne (hu : X.A.units + 64 < cLine) : OQ X (compareOp .NotEq) rNe3 := opq (op_neD hu) fun w S d e x y H Q R r0 p1 p2 t q => by
  unfold rNe3 at t
  split at t
  · exact ⟨_, _, dp_mono r0.sub _ _ p1, dp_mono r0.sub _ _ p2, t.1.1, t.1.2, q.bl r0 t.2⟩
  · exact t.elim
def isNon : D → Bool
  | .p .none => true
  | _ => false
theorem isNon_low {K : PySem.W.Frag} {w : W3} {v : V} {d : D} (p : RepD K w v d) : decide (v = .non) = isNon d := by
  cases d with
  | loc n =>
    obtain ⟨a, _, rfl⟩ := p
    rfl
  | p d =>
    have p' : Dp K w.h v d := p
    cases p' <;> rfl
def rIs3 : R3 := fun x y S Q => match y with
  | .p .none => Q (.p (.bool (isNon x))) S
  | .p (.bool b) => match x with
    | .p (.bool a) => Q (.p (.bool (a == b))) S
    | _ => False
  | _ => False
def rIsNot3 : R3 := fun x y S Q => match y with
  | .p .none => Q (.p (.bool (!isNon x))) S
  | .p (.bool b) => match x with
    | .p (.bool a) => Q (.p (.bool (a != b))) S
    | _ => False
  | _ => False
theorem oq_is : OQ X (compareOp .Is) rIs3 := opq (op_isN.or op_isBl) fun w S d e x y H Q R r0 p1 p2 t q => by
  unfold rIs3 at t
  split at t
  · refine .inl ⟨dp_non p2, ?_⟩
    rw [isNon_low p1]
    exact q.bl r0 t
  · split at t
    · refine .inr ⟨_, _, dp_bl p1, dp_bl p2, ?_⟩
      rename_i a
      rename_i b _
      refine q.bl r0 ?_
      rw [← Bool.beq_eq_decide_eq]
      exact t
    · exact t.elim
  · exact t.elim
theorem oq_isnot : OQ X (compareOp .IsNot) rIsNot3 := opq (op_notN.or op_notBl) fun w S d e x y H Q R r0 p1 p2 t q => by
  unfold rIsNot3 at t
  split at t
  · refine .inl ⟨dp_non p2, ?_⟩
    rw [isNon_low p1]
    exact q.bl r0 t
  · split at t
    · refine .inr ⟨_, _, dp_bl p1, dp_bl p2, ?_⟩
      rename_i a
      rename_i b _
      refine q.bl r0 ?_
      rw [← Bool.beq_eq_decide_eq]
      exact t
    · exact t.elim
  · exact t.elim
/-- xs[i] -/
theorem atI_dp {K : PySem.W.Frag} {h : Hp} {xs : List V} {ds : List PyData} {i : Int} {d : PyData} (ha : DpAll K h xs ds) (e : atI ds i = some d) : ∃ v, atI xs i = some v ∧ Dp K h v d := by
  unfold atI at e ⊢
  rw [DpAll.length ha]
  cases hj : ixN ds.length i with
  | none => rw [hj] at e; cases e
  | some j =>
    rw [hj] at e
    obtain ⟨v, h1, h2⟩ := DpAll.get ha (show ds[j]? = some d from e)
    exact ⟨v, h1, h2⟩
def rIx3 : R3 := fun x y S Q => match y with
  | .p (.int i) => (match x with
    | .p (.str z) => z.length ≤ 16777216 ∧ (match atI z.cps.toList i with
      | some c => Q (.p (.str ⟨#[c]⟩)) S
      | none => False)
    | _ => match seq3 S x with
      | some ds => (match atI ds i with
        | some d => Q (.p d) S
        | none => False)
      | none => False)
  | _ => False
theorem iq_seq : IQ X rIx3 := IxR.imp ix_seq fun x y H R ⟨w, S, d, e, Q, r0, p1, p2, t, q⟩ => by
  have hz : sizeLine = 16777216 := sizeLine_eq
  unfold rIx3 at t
  split at t
  · have hy := dp_int p2
    subst hy
    split at t
    · obtain ⟨hl, t⟩ := t
      split at t
      · rename_i c hc
        exact .inr (.inr ⟨_, _, c, dp_str p1, rfl, by omega, hc, q.str r0 t⟩)
      · exact t.elim
    · split at t
      · rename_i ds h1
        split at t
        rotate_left
        · exact t.elim
        rename_i d' hd
        obtain ⟨a, xs, rfl, hq, ha, _⟩ := seq3_low r0 p1 h1
        obtain ⟨v, h2, h3⟩ := atI_dp ha hd
        rcases hq with hq | hq
        · exact .inl ⟨a, xs, _, v, rfl, rfl, hq, h2, q.old (d := .p d') r0 h3 t⟩
        · exact .inr (.inl ⟨a, xs, _, v, rfl, rfl, hq, h2, q.old (d := .p d') r0 h3 t⟩)
      · exact t.elim
  · exact t.elim
/-! #### built-ins -/
def rLen3 : C3 := fun ds S Q => match ds with
  | [.p (.str z)] => z.length ≤ 16777216 ∧ Q (.p (.int z.length)) S
  | [d] => match seq3 S d with
    | some es => Q (.p (.int es.length)) S
    | none => False
  | _ => False
theorem rds1 {K : PySem.W.Frag} {w : W3} {vs : List V} {d : D} (h : RepDs K w vs [d]) : ∃ v, vs = [v] ∧ RepD K w v d := by
  match vs, h with
  | [v], h => exact ⟨v, rfl, h.1⟩
  | [], h => exact h.elim
  | _ :: _ :: _, h => exact h.2.elim
theorem rds2 {K : PySem.W.Frag} {w : W3} {vs : List V} {d e : D} (h : RepDs K w vs [d, e]) : ∃ v u, vs = [v, u] ∧ RepD K w v d ∧ RepD K w u e := by
  match vs, h with
  | [v, u], h => exact ⟨v, u, rfl, h.1, h.2.1⟩
  | [], h => exact h.elim
  | [_], h => exact h.2.elim
  | _ :: _ :: _ :: _, h => exact h.2.2.elim
theorem cq_len : CQ X (.builtin "len") rLen3 := callq call_len fun w S ds xs H Q R r0 p1 t q => by
  have hz : sizeLine = 16777216 := sizeLine_eq
  unfold rLen3 at t
  split at t
  · obtain ⟨v, rfl, p⟩ := rds1 p1
    have := dp_str p
    subst this
    exact ⟨_, _, rfl, ⟨by omega, rfl⟩, q.int r0 t.2⟩
  · obtain ⟨v, rfl, p⟩ := rds1 p1
    split at t
    · rename_i es h1
      obtain ⟨a, ys, rfl, hq, ha, _⟩ := seq3_low r0 p h1
      have hl := DpAll.length ha
      refine ⟨_, es.length, rfl, ?_, q.int r0 t⟩
      rcases hq with hq | hq
      · exact .inl ⟨ys, hq, hl.symm⟩
      · exact .inr ⟨ys, hq, hl.symm⟩
    · exact t.elim
  · exact t.elim
def rIntOf3 : C3 := fun ds S Q => match ds with
  | [.p (.int i)] => Q (.p (.int i)) S
  | [.p (.bool b)] => Q (.p (.int (if b then 1 else 0))) S
  | _ => False
theorem cq_int : CQ X (.type "int") rIntOf3 := callq call_int1 fun w S ds xs H Q R r0 p1 t q => by
  unfold rIntOf3 at t
  split at t
  · obtain ⟨v, rfl, p⟩ := rds1 p1
    have := dp_int p
    subst this
    exact .inl ⟨_, rfl, q.int r0 t⟩
  · obtain ⟨v, rfl, p⟩ := rds1 p1
    have := dp_bl p
    subst this
    exact .inr ⟨_, rfl, q.int r0 t⟩
  · exact t.elim
def rInt2 (g : Int → Int → Int) : C3 := fun ds S Q => match ds with
  | [.p (.int i), .p (.int j)] => Q (.p (.int (g i j))) S
  | _ => False
theorem cq_max2 (hc : X.calm = true) : CQ X (.builtin "max") (rInt2 fun i j => if j > i then j else i) := callq (call_max2 hc) fun w S ds xs H Q R r0 p1 t q => by
  unfold rInt2 at t
  split at t
  · obtain ⟨v, u, rfl, p, p'⟩ := rds2 p1
    have := dp_int p
    subst this
    have := dp_int p'
    subst this
    exact ⟨_, _, rfl, q.int r0 t⟩
  · exact t.elim
theorem cq_min2 (hc : X.calm = true) : CQ X (.builtin "min") (rInt2 fun i j => if j < i then j else i) := callq (call_min2 hc) fun w S ds xs H Q R r0 p1 t q => by
  unfold rInt2 at t
  split at t
  · obtain ⟨v, u, rfl, p, p'⟩ := rds2 p1
    have := dp_int p
    subst this
    have := dp_int p'
    subst this
    exact ⟨_, _, rfl, q.int r0 t⟩
  · exact t.elim
def rTupOf3 : C3 := fun ds S Q => match ds with
  | [d] => match seq3 S d with
    | some es => Q (.p (.tuple es)) S
    | none => False
  | _ => False
theorem cq_tuple : CQ X (.type "tuple") rTupOf3 := callq call_tuple_of fun w S ds xs H Q R r0 p1 t q => by
  unfold rTupOf3 at t
  split at t
  · obtain ⟨v, rfl, p⟩ := rds1 p1
    split at t
    · rename_i es h1
      unfold seq3 at h1
      split at h1
      · cases h1
        obtain ⟨a, ys, rfl, hq, ha⟩ := dp_tup_ref p
        exact ⟨a, ys, rfl, .inr ⟨Same.sqT r0.sub hq, q.old r0 p t⟩⟩
      · obtain ⟨a, ys, rfl, hq, ha, hz⟩ := lst3_low r0 p h1
        exact ⟨a, ys, rfl, .inl ⟨hq, q.tup r0 ha hz t⟩⟩
    · exact t.elim
  · exact t.elim
/-- isinstance(x, T), T the name of a built-in class -/
def tyOf : PyData → String
  | .none => "NoneType"
  | .bool _ => "bool"
  | .int _ => "int"
  | .str _ => "str"
  | .list _ => "list"
  | .tuple _ => "tuple"
  | .dict _ => "dict"
end
end L3

namespace L3
open PySem PySem.Spec PyProof.Rows L2
/-! ### own lists changed -/
def own3 (S : S3) : D → Option (Nat × List PyData)
  | .loc n => match S[n]? with
    | some (some (.lst ds)) => some (n, ds)
    | _ => none
  | _ => none
theorem own3_low {K : PySem.W.Frag} {w : W3} {H : Hp} {S : S3} {v : V} {d : D} {n : Nat} {ds : List PyData} (r : Rel3 K w H S) (p : RepD K w v d) (h : own3 S d = some (n, ds)) :
    ∃ a xs, v = .ref a ∧ d = .loc n ∧ w.al[n]? = some a ∧ S[n]? = some (some (.lst ds)) ∧ H a = some (.lst xs) ∧ DpAll K w.h xs ds ∧ ds.length ≤ sizeLine := by
  unfold own3 at h
  split at h
  · split at h
    · rename_i es hs
      cases h
      obtain ⟨a, ha, rfl⟩ := p
      obtain ⟨_, u, hu, xs, rfl, hd, hz⟩ := r.live n a _ ha hs
      exact ⟨a, xs, rfl, rfl, ha, hs, hu, hd, hz⟩
    · cases h
  · cases h
/-- o[i] = e -/
def tPut3 (te to ti : TE3) : TS3 := fun D env S => te env S fun v S1 => to env S1 fun o S2 => ti env S2 fun i S3 => match own3 S3 o, i, v with
  | some (n, ds), .p (.int k), .p d => (match ixN ds.length k with
    | some j => D.nx env (S3.set n (some (.lst (ds.set j d))))
    | none => False)
  | _, _, _ => False
section
variable {X : Cx} {o i e : Expr} {to ti te : TE3} {pos pos' apos cpos : Pos}
theorem qs_put (he : QE X e te) (ho : QE X o to) (hi : QE X i ti)
    (ha : ∀ v, assign (.Subscript o i pos') X.env v = (do
      let ov ← holding [v] (eval o X.env)
      let iv ← holding [v, ov] (eval i X.env)
      standAt pos'
      holding [v, ov, iv] (setItem ov iv v)
      release [v, ov, iv] []) := by intro _; rfl) (hs : swapsWithSole [.Subscript o i pos'] e pos.line X.env = pure false := by rfl) (hw : swappedStores [.Subscript o i pos'] e X.env = pure none := by rfl)
    (h1 : (assignEach [.Subscript o i pos'] X.env).map (·.2) = [assign (.Subscript o i pos') X.env] := by rfl) : QS X (.Assign [.Subscript o i pos'] e pos) (tPut3 te to ti) :=
  (ps_asg he (pg_sub ho hi set_list ha) hs hw h1).imp fun D σ H ⟨w, env, S, D3, r0, en, t, q⟩ => by
    refine ⟨w, env, S, _, r0, en, t, fun w1 v d H1 S1 e1 r1 p1 t1 => ?_⟩
    refine ⟨w1, env, S1, _, r1, en.mono e1, t1, fun w2 u c H2 S2 e2 r2 p2 t2 => ?_⟩
    refine ⟨w2, env, S2, _, r2, (en.mono e1).mono e2, t2, fun w3 z b H3 S3 e3 r3 p3 t3 => ?_⟩
    have p2' := p2.mono e3
    have p1' := (p1.mono e2).mono e3
    split at t3
    · rename_i n ds k d' ho'
      split at t3
      rotate_left
      · exact t3.elim
      rename_i j hj
      obtain ⟨a, xs, rfl, rfl, ha, hs, hu, hd, hz⟩ := own3_low r3 p2' ho'
      refine ⟨a, xs, k, j, rfl, dp_int p3, hu, by rw [DpAll.length hd]; exact hj, ?_⟩
      exact q.nx w3 σ _ env _ ((e1.trans e2).trans e3) (r3.put (o' := .lst (ds.set j d')) ha hs ⟨_, rfl, DpAll.set p1' j hd, by rw [List.length_set]; exact hz⟩) (((en.mono e1).mono e2).mono e3) t3
    · exact t3.elim
/-- xs.append(e) -/
def tApp3 (to te : TE3) : TE3 := fun env S Q => to env S fun o S1 => match own3 S1 o with
  | some _ => te env S1 fun v S2 => match own3 S2 o, v with
    | some (n, ds), .p d => ds.length < 16777216 ∧ Q (.p .none) (S2.set n (some (.lst (ds ++ [d]))))
    | _, _ => False
  | none => False
theorem qe_append (ho : QE X o to) (he : QE X e te) (hbase : attributeBase o "append" X.env (eval o X.env) = eval o X.env := by rfl)
    (hfew : ((backTo cpos (starEach [e] X.env)).all (fun x => !x.1) && (backToKw cpos (keywordEach [] X.env)).all (fun x => x.1.isSome)
      && decide (([e] : List Expr).length + ([] : List Keyword).length + (if ([] : List Keyword).isEmpty then 0 else 1) < 30)) = true := by rfl)
    (hline : (apos.endLine == cpos.line) = true := by rfl) (hs : starEach [e] X.env = (false, eval e X.env) :: starEach [] X.env := by rfl) (hplain : (backTo cpos (starEach [] X.env)).any (·.1) = false := by rfl) :
    QE X (.Call (.Attribute o "append" apos) [e] [] cpos) (tApp3 to te) :=
  (pe_bm PySem.F.plainAttrs_list PySem.F.slot_list_append PySem.F.type_list_append mt_append ho (pa_cons he pa_nil hs) hbase hfew hline hs hplain).imp fun σ H R ⟨w, env, S, Q, r0, en, t, q⟩ => by
    have hz : sizeLine = 16777216 := sizeLine_eq
    refine ⟨w, env, S, _, r0, en, t, fun w1 v d H1 S1 e1 r1 p1 t1 => ?_⟩
    split at t1
    · rename_i nd ho1
      obtain ⟨n0, ds0⟩ := nd
      obtain ⟨a0, xs0, rfl, hd0, _, _, hu0, _, _⟩ := own3_low r1 p1 ho1
      refine ⟨.inl ⟨rfl, xs0, .inl (.inl hu0)⟩, ?_⟩
      refine ⟨w1, env, S1, _, r1, en.mono e1, t1, fun w2 u c H2 S2 e2 r2 p2 t2 => ?_⟩
      split at t2
      · rename_i n ds d' ho2
        obtain ⟨a, xs, hva, rfl, ha, hs, hu, hd, hzz⟩ := own3_low r2 (p1.mono e2) ho2
        cases hva
        have hl := DpAll.length hd
        refine ⟨_, xs, u, rfl, rfl, hu, by omega, ?_⟩
        exact q w2 .non (.p .none) _ _ (e1.trans e2) (r2.put (o' := .lst (ds ++ [d'])) ha hs ⟨_, rfl, DpAll.append hd (.cons p2 .nil), by rw [List.length_append, List.length_singleton]; omega⟩) rep_non t2.2
      · exact t2.elim
    · exact t1.elim
/-- xs.pop() -/
def tPop3 (to : TE3) : TE3 := fun env S Q => to env S fun o S1 => match own3 S1 o with
  | some (n, ds) => (match ds.getLast? with
    | some d => Q (.p d) (S1.set n (some (.lst ds.dropLast)))
    | none => False)
  | none => False
theorem DpAll.dropLast {K : PySem.W.Frag} {h : Hp} {vs : List V} {ds : List PyData} (r : DpAll K h vs ds) : DpAll K h vs.dropLast ds.dropLast := by
  rw [List.dropLast_eq_take, List.dropLast_eq_take, DpAll.length r]
  exact DpAll.take _ r
theorem qe_pop (ho : QE X o to) (hbase : attributeBase o "pop" X.env (eval o X.env) = eval o X.env := by rfl) (hline : (apos.endLine == cpos.line) = true := by rfl) :
    QE X (.Call (.Attribute o "pop" apos) [] [] cpos) (tPop3 to) :=
  (pe_bm0 PySem.F.plainAttrs_list PySem.F.slot_list_pop PySem.F.type_list_pop mt_pop ho hbase hline).imp fun σ H R ⟨w, env, S, Q, r0, en, t, q⟩ => by
    refine ⟨w, env, S, _, r0, en, t, fun w1 v d H1 S1 e1 r1 p1 t1 => ?_⟩
    split at t1
    · rename_i n ds ho1
      split at t1
      rotate_left
      · exact t1.elim
      rename_i d' hd'
      rw [List.getLast?_eq_getElem?] at hd'
      obtain ⟨a, xs, rfl, rfl, ha, hs, hu, hd, hz⟩ := own3_low r1 p1 ho1
      obtain ⟨u, h1, h2⟩ := DpAll.get hd hd'
      refine ⟨.inl ⟨rfl, xs, .inl (.inl hu)⟩, a, xs, u, rfl, rfl, hu, by rw [DpAll.length hd]; exact h1, ?_⟩
      exact q w1 u (.p d') _ _ e1 (r1.put (o' := .lst ds.dropLast) ha hs ⟨_, rfl, DpAll.dropLast hd, by rw [List.length_dropLast]; omega⟩) h2 t1
    · exact t1.elim
/-- xs.pop(i) -/
def tPopAt3 (to ti : TE3) : TE3 := fun env S Q => to env S fun o S1 => match own3 S1 o with
  | some _ => ti env S1 fun i S2 => match own3 S2 o, i with
    | some (n, ds), .p (.int k) => (match ixN ds.length k with
      | some j => (match ds[j]? with
        | some d => Q (.p d) (S2.set n (some (.lst (ds.eraseIdx j))))
        | none => False)
      | none => False)
    | _, _ => False
  | none => False
theorem qe_popAt (ho : QE X o to) (he : QE X e te) (hbase : attributeBase o "pop" X.env (eval o X.env) = eval o X.env := by rfl)
    (hfew : ((backTo cpos (starEach [e] X.env)).all (fun x => !x.1) && (backToKw cpos (keywordEach [] X.env)).all (fun x => x.1.isSome)
      && decide (([e] : List Expr).length + ([] : List Keyword).length + (if ([] : List Keyword).isEmpty then 0 else 1) < 30)) = true := by rfl)
    (hline : (apos.endLine == cpos.line) = true := by rfl) (hs : starEach [e] X.env = (false, eval e X.env) :: starEach [] X.env := by rfl) (hplain : (backTo cpos (starEach [] X.env)).any (·.1) = false := by rfl) :
    QE X (.Call (.Attribute o "pop" apos) [e] [] cpos) (tPopAt3 to te) :=
  (pe_bm PySem.F.plainAttrs_list PySem.F.slot_list_pop PySem.F.type_list_pop mt_popAt ho (pa_cons he pa_nil hs) hbase hfew hline hs hplain).imp fun σ H R ⟨w, env, S, Q, r0, en, t, q⟩ => by
    have hz : sizeLine = 16777216 := sizeLine_eq
    refine ⟨w, env, S, _, r0, en, t, fun w1 v d H1 S1 e1 r1 p1 t1 => ?_⟩
    split at t1
    · rename_i nd ho1
      obtain ⟨n0, ds0⟩ := nd
      obtain ⟨a0, xs0, rfl, hd0, _, _, hu0, _, _⟩ := own3_low r1 p1 ho1
      refine ⟨.inl ⟨rfl, xs0, .inl (.inl hu0)⟩, ?_⟩
      refine ⟨w1, env, S1, _, r1, en.mono e1, t1, fun w2 u c H2 S2 e2 r2 p2 t2 => ?_⟩
      split at t2
      · rename_i n ds k ho2
        split at t2
        rotate_left
        · exact t2.elim
        rename_i j hj
        split at t2
        rotate_left
        · exact t2.elim
        rename_i d' hd'
        obtain ⟨a, xs, hva, rfl, ha, hs, hu, hd, hzz⟩ := own3_low r2 (p1.mono e2) ho2
        cases hva
        have hl := DpAll.length hd
        obtain ⟨h1, h2, h3, h4⟩ := ixN_seq hj
        obtain ⟨y, h5, h6⟩ := DpAll.get hd hd'
        have := dp_int p2
        subst this
        refine ⟨_, xs, k, j, y, rfl, rfl, hu, by omega, by omega, by rw [hl]; exact h1, h5, ?_⟩
        exact q w2 y (.p d') _ _ (e1.trans e2) (r2.put (o' := .lst (ds.eraseIdx j)) ha hs ⟨_, rfl, DpAll.eraseIdx j hd, Nat.le_trans (List.length_eraseIdx_le ..) hzz⟩) (RepD.mono0 (Ex3.refl w2).toEx0 h6) t2
      · exact t2.elim
    · exact t1.elim

/-! ### isinstance(x, T) -/
def isTy (T : String) : PyData → Bool
  | .none => T == "NoneType"
  | .bool _ => T == "bool" || T == "int"
  | .int _ => T == "int"
  | .str _ => T == "str"
  | .list _ => T == "list"
  | .tuple _ => T == "tuple"
  | .dict _ => T == "dict"
def tIsi3 (T : String) (te : TE3) : TE3 := fun env S Q => te env S fun x S1 => match x with
  | .p d => Q (.p (.bool (isTy T d))) S1
  | .loc n => match S1[n]? with
    | some (some (.lst _)) => Q (.p (.bool (T == "list"))) S1
    | some (some (.dic _)) => Q (.p (.bool (T == "dict"))) S1
    | _ => False
def kitAll (T : String) : Bool := decide (kitB "NoneType" T = some (T == "NoneType")) && decide (kitB "bool" T = some (T == "bool" || T == "int")) && decide (kitB "int" T = some (T == "int")) && decide (kitB "str" T = some (T == "str")) && decide (kitB "list" T = some (T == "list")) && decide (kitB "tuple" T = some (T == "tuple")) && decide (kitB "dict" T = some (T == "dict"))
theorem isi_low {K : PySem.W.Frag} {w : W3} {H : Hp} {S : S3} {v : V} {d : PyData} {T : String} (hk : kitAll T = true) (r : Rel3 K w H S) (p : Dp K w.h v d) : ∃ t, TyX K H v t ∧ PySem.W.kitOne K t (.type T) = some (isTy T d) := by
  unfold kitAll at hk
  simp only [Bool.and_eq_true, decide_eq_true_eq] at hk
  obtain ⟨⟨⟨⟨⟨⟨k1, k2⟩, k3⟩, k4⟩, k5⟩, k6⟩, k7⟩ := hk
  cases p with
  | non => exact ⟨_, .base .non, kit_ty k1⟩
  | bl b => exact ⟨_, .base (.bl b), kit_ty k2⟩
  | int i => exact ⟨_, .base (.int i), kit_ty k3⟩
  | str x => exact ⟨_, .base (.str x), kit_ty k4⟩
  | lst hs ha =>
    rcases hs with (hs | ⟨o, hs⟩) | ⟨o, its, n, hk, hc, _, hd, _, _⟩
    · exact ⟨_, .base (.lst (r.sub _ _ hs)), kit_ty k5⟩
    · exact ⟨_, .base (.frz (r.sub _ _ hs)), kit_ty k5⟩
    · exact ⟨_, .kList hk hc, kit_ty k5⟩
  | tup hs ha =>
    rcases hs with (hs | ⟨o, hs⟩) | ⟨o, its, n, hk, hc, hd, _, _⟩
    · exact ⟨_, .base (.tup (r.sub _ _ hs)), kit_ty k6⟩
    · exact ⟨_, .fTuple (r.sub _ _ hs), kit_ty k6⟩
    · exact ⟨_, .kTuple hk hc, kit_ty k6⟩
theorem qe_isi {T : String} {x : Str} {pi px : Pos} (hk : kitAll T = true) (hg : Gl X "isinstance") (hm : X.mg "isinstance" = none) (hgx : Gl X x) (hmx : X.mg x = none) (hvx : bootBuiltins x = some (.type T)) (hnx : x ≠ "__name__") (hdx : (x == ("__debug__" : Str)) = false) (he : QE X e te)
    (h1 : starEach [e, .Name x px] X.env = (false, eval e X.env) :: starEach [.Name x px] X.env := by rfl) (h2 : starEach [.Name x px] X.env = (false, eval (.Name x px) X.env) :: starEach [] X.env := by rfl) (hpl : (backTo pos (starEach [.Name x px] X.env)).any (·.1) = false := by rfl) :
    QE X (.Call (.Name "isinstance" pi) [e, .Name x px] [] pos) (tIsi3 T te) :=
  (pe_callB call_isi hg hm (by decide +kernel) (pa_cons he (pa_cons (pe_bltn (v := .ty T) hgx hmx hvx rfl hnx hdx) pa_nil h2) h1) (by decide) (by decide) h1 hpl).imp fun σ H R ⟨w, env, S, Q, r0, en, t, q⟩ => by
    refine ⟨w, env, S, _, r0, en, t, fun w1 v d H1 S1 e1 r1 p1 t1 => ?_⟩
    split at t1
    · rename_i d
      obtain ⟨ty, h3, h4⟩ := isi_low hk r1 p1
      exact ⟨v, .ty T, ty, .type T, _, rfl, .ty T, h3, h4, q _ _ _ _ _ e1 r1 rep_bl t1⟩
    · unfold kitAll at hk
      simp only [Bool.and_eq_true, decide_eq_true_eq] at hk
      obtain ⟨⟨⟨⟨⟨⟨k1, k2⟩, k3⟩, k4⟩, k5⟩, k6⟩, k7⟩ := hk
      obtain ⟨a, ha, rfl⟩ := p1
      split at t1
      · rename_i ds hs
        obtain ⟨_, u, hu, xs, rfl, hd, hz⟩ := r1.live _ a _ ha hs
        exact ⟨_, .ty T, _, .type T, _, rfl, .ty T, .base (.lst hu), kit_ty k5, q _ _ _ _ _ e1 r1 rep_bl t1⟩
      · rename_i ds hs
        obtain ⟨_, u, hu, xs, rfl, hd⟩ := r1.live _ a _ ha hs
        exact ⟨_, .ty T, _, .type T, _, rfl, .ty T, .base (.dT hu), kit_ty k7, q _ _ _ _ _ e1 r1 rep_bl t1⟩
      · exact t1.elim
end
/-! ### a law's own entry -/
theorem dpAll_ints {K : PySem.W.Frag} {h : Hp} : ∀ ns : List Int, DpAll K h (ns.map V.int) (ns.map PyData.int)
  | [] => .nil
  | n :: ns => .cons (.int n) (dpAll_ints ns)
def spLaw3 : Sp3 := fun ds S Q => ∃ ns : List Int, ds = [.p (.list (ns.map PyData.int))] ∧ ns.length ≤ 63 ∧ S = [] ∧ ∀ S', Q (.p (.bool true)) S'
theorem law_in {K : PySem.W.Frag} {H : Hp} {a : Addr} {ns : List Int} {Q : VK} (hl : ns.length ≤ 63) (hS : SqL K H a (ns.map V.int)) (hQ : ∀ H', Q (.bl true) H') : lowC K spLaw3 [.ref a] H Q := by
  have hz : sizeLine = 16777216 := sizeLine_eq
  have fin : ∀ w : W3, Rel3 K w H [] → SqL K w.h a (ns.map V.int) → lowC K spLaw3 [.ref a] H Q := fun w r hq => by
    refine ⟨w, [], [.p (.list (ns.map PyData.int))], fun d _ => d = .p (.bool true), r, ⟨.lst hq (dpAll_ints ns), trivial⟩, ⟨ns, rfl, hl, rfl, fun _ => rfl⟩, fun w' v d H' S' e r' p h => ?_⟩
    subst h
    have := dp_bl p
    subst this
    exact hQ H'
  have tracked : ∀ u, H a = some u → (u = .lst (ns.map V.int) ∨ ∃ o, u = .frz o (.lst (ns.map V.int))) → lowC K spLaw3 [.ref a] H Q := fun u hu hk => by
    refine fin ⟨[], upd (fun _ => none) a u, []⟩ ⟨fun b x e => ?_, fun b x e => ?_, rfl, fun n b o e => by simp at e, fun n b e => by simp at e, List.nodup_nil, fun b x hb => by simp at hb, List.nodup_nil⟩ ?_
    · have e' : upd (fun _ => none) a u b = some x := e
      by_cases hb : b = a
      · subst hb
        rw [upd_same] at e'
        cases e'
        exact hu
      · rw [upd_ne hb] at e'
        cases e'
    · have e' : upd (fun _ => none) a u b = some x := e
      by_cases hb : b = a
      · subst hb
        rw [upd_same] at e'
        cases e'
        rcases hk with rfl | ⟨o, rfl⟩
        · show (ns.map V.int).length ≤ _
          rw [List.length_map]
          omega
        · show (ns.map V.int).length ≤ _
          rw [List.length_map]
          omega
      · rw [upd_ne hb] at e'
        cases e'
    · rcases hk with rfl | ⟨o, rfl⟩
      · exact .inl (.inl (upd_same (H := fun _ => none) (a := a)))
      · exact .inl (.inr ⟨o, upd_same (H := fun _ => none) (a := a)⟩)
  rcases hS with (h | ⟨o, h⟩) | h
  · exact tracked _ h (.inl rfl)
  · exact tracked _ h (.inr ⟨o, rfl⟩)
  · exact fin ⟨[], fun _ => none, []⟩ ⟨(fun b x e => nomatch e), (fun b x e => nomatch e), rfl, (fun n b o e => by simp at e), (fun n b e => by simp at e), List.nodup_nil, (fun b x hb => by simp at hb), List.nodup_nil⟩ (.inr h)
/-! ### repr of ints, None, truths -/
def rRepr3 : C3 := fun ds S Q => match ds with
  | [.p (.int i)] => i.natAbs.log2 < 1920 ∧ Q (.p (.str (toString i))) S
  | [.p .none] => Q (.p (.str "None")) S
  | _ => False
section
variable {X : Cx}
theorem call_repr_i : CallR X (.builtin "repr") (fun xs H Q => (∃ i, xs = [.int i] ∧ i.natAbs.log2 < 1920 ∧ Q (.str (toString i)) H) ∨ (xs = [.non] ∧ Q (.str "None") H)) := by
  intro pins s σ H xs us Q I r h
  rcases h with ⟨i, rfl, hz, q⟩ | ⟨rfl, q⟩
  · obtain ⟨u, rfl, t, rfl⟩ := vals1 r
    exact PySem.P.repr_of_int hz ⟨.str _, H, I.tok _, ⟨_, rfl⟩, q⟩
  · obtain ⟨u, rfl, r1⟩ := vals1 r
    cases r1
    exact PySem.P.repr_of_none ⟨.str _, H, I.tok _, ⟨_, rfl⟩, q⟩
theorem cq_repr : CQ X (.builtin "repr") rRepr3 := callq call_repr_i fun w S ds xs H Q R r0 p1 t q => by
  unfold rRepr3 at t
  split at t
  · obtain ⟨v, rfl, p⟩ := rds1 p1
    have := dp_int p
    subst this
    exact .inl ⟨_, rfl, t.1, q.str r0 t.2⟩
  · obtain ⟨v, rfl, p⟩ := rds1 p1
    have := dp_non p
    subst this
    exact .inr ⟨rfl, q.str r0 t⟩
  · exact t.elim
def rNeg3 : U3 := fun x S Q => match x with
  | .p (.int i) => Q (.p (.int (-i))) S
  | _ => False
theorem uq_neg : UQ X (unaryOp .USub) rNeg3 := UnR.imp un_neg fun x H R ⟨w, S, d, Q, r0, p, t, q⟩ => by
  unfold rNeg3 at t
  split at t
  · exact ⟨_, dp_int p, q.int r0 t⟩
  · exact t.elim
end
end L3

namespace L3
open PySem PySem.Spec PyProof.Rows L2
/-! ### for readings -/
theorem eqv_int (a b : Int) : PyData.eqv (.int a) (.int b) = (a == b) := by simp [PyData.eqv]
theorem eqv_bool (a b : Bool) : PyData.eqv (.bool a) (.bool b) = (a == b) := by simp [PyData.eqv]
theorem eqv_str (a b : Str) : PyData.eqv (.str a) (.str b) = (a == b) := by simp [PyData.eqv]
theorem eqv_ni (a : Int) : PyData.eqv .none (.int a) = false := by simp [PyData.eqv]
theorem eqv_in (a : Int) : PyData.eqv (.int a) .none = false := by simp [PyData.eqv]
theorem shaped_int (a : Int) : SeqAt.shaped (.int a) = true := rfl
theorem shaped_bool (a : Bool) : SeqAt.shaped (.bool a) = true := rfl
theorem shaped_none : SeqAt.shaped .none = true := rfl
theorem strOk_of (s : String) : PyData.strOk (PySem.Str.ofString s) = true := by
  rw [PySem.Str.ofString_eq_toList]
  unfold PyData.strOk
  rw [← Array.all_toList]
  simp only [List.all_eq_true, decide_eq_true_eq]
  intro c hc
  obtain ⟨d, _, rfl⟩ := List.mem_map.mp (by simpa using hc)
  have := d.valid
  rcases this with h | ⟨_, h⟩
  · exact Nat.lt_trans h (by decide)
  · exact h
theorem shaped_str {x : Str} (h : PyData.strOk x = true) : SeqAt.shaped (.str x) = true := by
  unfold SeqAt.shaped PyData.canLay0
  rw [h]
  rfl
theorem eqv_str_self (a : Str) : PyData.eqv (.str a) (.str a) = true := by rw [eqv_str]; simp
theorem shaped_ofStr (s : String) : SeqAt.shaped (.str (PySem.Str.ofString s)) = true := shaped_str (strOk_of s)
theorem Fits.nil {L : Nat} : Fits [] [] L := ⟨rfl, fun i d h => by simp [at3] at h⟩
theorem Fits.drop {r r' : E3} {x : Option D} {L : Nat} (h : Fits r r' L) : Fits (x :: r) (none :: r') L := ⟨congrArg (· + 1) h.1, fun i d q => by
  cases i with
  | zero => simp [at3] at q
  | succ i => exact h.2 i d q⟩
theorem Fits.keep {r r' : E3} {x : PyData} {L : Nat} (h : Fits r r' L) : Fits (some (.p x) :: r) (some (.p x) :: r') L := ⟨congrArg (· + 1) h.1, fun i d q => by
  cases i with
  | zero =>
    simp [at3] at q
    subst q
    exact ⟨rfl, trivial⟩
  | succ i => exact h.2 i d q⟩
theorem Fits.loc {r r' : E3} {n L : Nat} (hn : n < L) (h : Fits r r' L) : Fits (some (.loc n) :: r) (some (.loc n) :: r') L := ⟨congrArg (· + 1) h.1, fun i d q => by
  cases i with
  | zero =>
    simp [at3] at q
    subst q
    exact ⟨rfl, hn⟩
  | succ i => exact h.2 i d q⟩
theorem wk_self {n : Nat} {I : E3 → S3 → Prop} {e : E3} {s : S3} (h : I e s) : Wk n I e s := .inl h
/-- a hand of three ints at n -/
def Hd (S : S3) (n : Nat) : Prop := ∃ g x c : Int, S[n]? = some (some (.lst [.int g, .int x, .int c]))
def HdTo (n : Nat) (S S' : S3) : Prop := ∃ g x c : Int, S' = S.set n (some (.lst [.int g, .int x, .int c]))
theorem Hd.lt {S : S3} {n : Nat} (h : Hd S n) : n < S.length := by
  obtain ⟨_, _, _, e⟩ := h
  exact (List.getElem?_eq_some_iff.mp e).1
theorem HdTo.len {S S' : S3} {n : Nat} (h : HdTo n S S') : S'.length = S.length := by
  obtain ⟨_, _, _, rfl⟩ := h
  simp
theorem HdTo.hd {S S' : S3} {n : Nat} (h : HdTo n S S') (h0 : Hd S n) : Hd S' n := by
  obtain ⟨g, x, c, rfl⟩ := h
  exact ⟨g, x, c, by rw [List.getElem?_set_self h0.lt]⟩
theorem HdTo.trans {S S' S'' : S3} {n : Nat} (h : HdTo n S S') (h' : HdTo n S' S'') : HdTo n S S'' := by
  obtain ⟨g, x, c, rfl⟩ := h
  obtain ⟨g', x', c', rfl⟩ := h'
  exact ⟨g', x', c', by rw [List.set_set]⟩
theorem fin_hd {n : Nat} {S S' : S3} {Q : K3} {d : PyData} (h : HdTo n S S') (q : Q (.p d) S') : Fin3 S Q (.p d) S' := fin_all (by rw [h.len]; exact Nat.le_refl _) trivial q
theorem ixN_lit (n k : Nat) : ixN n (no_index (@OfNat.ofNat Int k instOfNat)) = if k < n then some k else none := by
  show ixN n ((k : Nat) : Int) = _
  unfold ixN
  rw [if_pos (by omega)]
  by_cases h : k < n
  · rw [if_pos (by omega), if_pos h]
    simp
  · rw [if_neg (by omega), if_neg h]
theorem atI_lit {α : Type} (xs : List α) (k : Nat) : atI xs (no_index (@OfNat.ofNat Int k instOfNat)) = xs[k]? := by
  unfold atI
  rw [ixN_lit]
  by_cases h : k < xs.length
  · rw [if_pos h]
    rfl
  · rw [if_neg h, List.getElem?_eq_none (by omega)]
    rfl
theorem atI_of {α : Type} {xs : List α} {i : Int} {v : α} (h0 : 0 ≤ i) (h : xs[i.toNat]? = some v) : atI xs i = some v := by
  obtain ⟨n, rfl⟩ := Int.eq_ofNat_of_zero_le h0
  exact atI_nat (by simpa using h)
theorem atI_neg1 {α : Type} (xs : List α) : atI xs (-1) = xs.getLast? := by
  unfold atI ixN
  rw [if_neg (by decide)]
  by_cases h : xs = []
  · subst h
    rfl
  · have hl : 0 < xs.length := by
      cases xs with
      | nil => exact absurd rfl h
      | cons => simp
    rw [if_pos (by omega), List.getLast?_eq_getElem?]
    show xs[(-1 + (xs.length : Int)).toNat]? = _
    congr 1
    omega
theorem mulOk_ite (z : Int) (b : Prop) [Decidable b] : MulOk z (if b then 1 else 0) := by
  refine .inr (.inl ?_)
  split <;> constructor <;> decide
instance (i j : Int) : Decidable (MulOk i j) := by unfold MulOk CMulW; infer_instance
instance (i j : Int) : Decidable (DivOk i j) := by unfold DivOk; infer_instance
instance (i j : Int) : Decidable (PowOk i j) := by unfold PowOk; infer_instance
end L3

namespace L3
open PySem PySem.Spec PyProof.Rows L2
/-! ### slices -/
abbrev TO3 := E3 → S3 → (Option Int → S3 → Prop) → Prop
def lowO (K : PySem.W.Frag) (t : TO3) : TO := fun σ H R => ∃ w env S Q, Rel3 K w H S ∧ EnvR K w σ env ∧ t env S Q ∧ ∀ w' o H' S', Ex3 w w' → Rel3 K w' H' S' → Q o S' → R o H'
abbrev QO (X : Cx) (e : Option Expr) (t : TO3) : Prop := PO X e (lowO X.K t)
def tNoPart3 : TO3 := fun _ S Q => Q none S
def tPart3 (te : TE3) : TO3 := fun env S Q => te env S fun x S1 => match x with
  | .p (.int i) => Q (some i) S1
  | _ => False
def cut3 {α : Type} (ds : List α) (lo hi : Option Int) : List α := (ds.drop (HT.sIx ds.length 0 lo)).take (HT.sIx ds.length ds.length hi - HT.sIx ds.length 0 lo)
theorem cut3_len {α : Type} (ds : List α) (lo hi : Option Int) : (cut3 ds lo hi).length ≤ ds.length := by
  unfold cut3
  rw [List.length_take, List.length_drop]
  omega
section
variable {X : Cx} {e : Expr} {te : TE3} {lo hi : Option Expr} {tl th : TO3} {pos p2 : Pos}
theorem qo_none : QO X none tNoPart3 := ⟨fun pins s σ H Q I q => po_none.run pins s σ H Q I (let ⟨w, env, S, Q', r, en, t, q'⟩ := q; q' w none H S (Ex3.refl w) r t)⟩
theorem qo_some (h : QE X e te) : QO X (some e) (tPart3 te) := ⟨fun pins s σ H R I q => (po_some h).run pins s σ H R I (by
  obtain ⟨w, env, S, Q, r, en, t, q⟩ := q
  refine ⟨w, env, S, _, r, en, t, fun w1 v d H1 S1 e1 r1 p1 t1 => ?_⟩
  split at t1
  · exact ⟨_, dp_int p1, q w1 _ H1 S1 e1 r1 t1⟩
  · exact t1.elim)⟩
theorem dp_cut {K : PySem.W.Frag} {h : Hp} {vs : List V} {ds : List PyData} (r : DpAll K h vs ds) (lo hi : Option Int) : DpAll K h (cutV vs lo hi) (cut3 ds lo hi) := by
  unfold cutV cut3
  rw [DpAll.length r]
  exact DpAll.take _ (DpAll.drop _ r)
/-- x[lo:hi]: of a tuple, of a text, of a list (the new one changes no more) -/
def tSl3 (te : TE3) (tl th : TO3) : TE3 := fun env S Q => te env S fun x S1 => tl env S1 fun l S2 => th env S2 fun u S3 => match x with
  | .p (.tuple ds) => Q (.p (.tuple (cut3 ds l u))) S3
  | .p (.str z) => z.length ≤ 16777216 ∧ Q (.p (.str (cutS z l u))) S3
  | d => match lst3 S3 d with
    | some ds => Q (.p (.list (cut3 ds l u))) S3
    | none => False
def tSlN3 (te : TE3) (tl th : TO3) : TN3 := fun env S Q => te env S fun x S1 => tl env S1 fun l S2 => th env S2 fun u S3 => match lst3 S3 x with
  | some ds => Q (cut3 ds l u) S3
  | none => False
theorem cut3_all {α : Type} (ds : List α) (lo hi : Option Int) (h : HT.sIx ds.length 0 lo = 0 ∧ HT.sIx ds.length ds.length hi = ds.length) : cut3 ds lo hi = ds := by
  unfold cut3
  rw [h.1, h.2, List.drop_zero, Nat.sub_zero, List.take_length]
theorem qe_slice (he : QE X e te) (hl : QO X lo tl) (hh : QO X hi th) : QE X (.Subscript e (.Slice lo hi none p2) pos) (tSl3 te tl th) :=
  (pe_slice (SlR.or sl_tupA (SlR.or sl_str sl_list)) he hl hh).imp fun σ H R ⟨w, env, S, Q, r0, en, t, q⟩ => by
    have hz : sizeLine = 16777216 := sizeLine_eq
    refine ⟨w, env, S, _, r0, en, t, fun w1 v d H1 S1 e1 r1 p1 t1 => ?_⟩
    refine ⟨w1, env, S1, _, r1, en.mono e1, t1, fun w2 l H2 S2 e2 r2 t2 => ?_⟩
    refine ⟨w2, env, S2, _, r2, (en.mono e1).mono e2, t2, fun w3 u H3 S3 e3 r3 t3 => ?_⟩
    have p3 := (p1.mono e2).mono e3
    have q3 := (q.mono e1).mono (e2.trans e3)
    split at t3
    · rename_i ds
      obtain ⟨a, xs, rfl, hq, ha⟩ := dp_tup_ref p3
      have hl := DpAll.length ha
      have hlen := len_tup r3 p3
      refine .inl ⟨a, xs, rfl, Same.sqT r3.sub hq, fun hc => ?_, fun _ => q3.tup r3 (dp_cut ha l u) (Nat.le_trans (cut3_len _ _ _) hlen) t3⟩
      rw [hl] at hc
      rw [cut3_all ds l u hc] at t3
      exact q3.old r3 p3 t3
    · have := dp_str p3
      subst this
      exact .inr (.inl ⟨_, rfl, by omega, q3.str r3 t3.2⟩)
    · split at t3
      · rename_i ds h1
        obtain ⟨a, xs, rfl, hq, ha, hlen⟩ := lst3_low r3 p3 h1
        exact .inr (.inr ⟨a, xs, rfl, hq, q3.lst r3 (dp_cut ha l u) (Nat.le_trans (cut3_len _ _ _) hlen) t3⟩)
      · exact t3.elim
theorem qn_slice (he : QE X e te) (hl : QO X lo tl) (hh : QO X hi th) : QN X (.Subscript e (.Slice lo hi none p2) pos) (tSlN3 te tl th) :=
  L2.PE.imp (pe_slice sl_list he hl hh) fun σ H R ⟨w, env, S, Q, r0, en, t, q⟩ => by
    refine ⟨w, env, S, _, r0, en, t, fun w1 v d H1 S1 e1 r1 p1 t1 => ?_⟩
    refine ⟨w1, env, S1, _, r1, en.mono e1, t1, fun w2 l H2 S2 e2 r2 t2 => ?_⟩
    refine ⟨w2, env, S2, _, r2, (en.mono e1).mono e2, t2, fun w3 u H3 S3 e3 r3 t3 => ?_⟩
    have p3 := (p1.mono e2).mono e3
    split at t3
    · rename_i ds h1
      obtain ⟨a, xs, rfl, hq, ha, hlen⟩ := lst3_low r3 p3 h1
      exact ⟨a, xs, rfl, hq, fun p hn => q w3 p _ _ H3 S3 ((e1.trans e2).trans e3) r3 hn (dp_cut ha l u) (Nat.le_trans (cut3_len _ _ _) hlen) t3⟩
    · exact t3.elim
end
/-! ### tuple * int -/
theorem tuple_mul_same (l : Addr) (items : Array Value) (n : Nat) (dd : Option Addr) (sl : Array (Option Value)) (x : Int) (u : Tok) (c0 : (decide (x < -(2 ^ 63)) || decide (x ≥ 2 ^ 63)) = false) (c1 : (items.isEmpty || x == 1) = true) :
    Meets (Builtin.«tuple.__mul__» ⟨[.ref l, .int x u], []⟩) (fun _ R s => s.heap.get? l = some { cls := .type "tuple", dict := dd, data := .seq items n, slots := sl } ∧ R (.ok (.ret (Value.ref l))) s) :=
  .of_wp fun prog w A R s h => by
    obtain ⟨hp, g, d, tk, os⟩ := s
    obtain ⟨hl, h⟩ := h
    have f1 := AutoSeq1.idx_int
    wp_walk using wpAny_loadPart' hl
    repeat (first
      | (refine wpAny_ite_false (decide_eq_false (by rw [c0]; exact Bool.false_ne_true)) ?_; wp_walk using wpAny_loadPart' hl)
      | (refine wpAny_ite_true (decide_eq_true c1) ?_; wp_walk using wpAny_loadPart' hl))
    all_goals first | exact ⟨_, rfl, h⟩ | skip
theorem tuple_mul_none (l : Addr) (items : Array Value) (n : Nat) (dd : Option Addr) (sl : Array (Option Value)) (x : Int) (u : Tok) (c0 : (decide (x < -(2 ^ 63)) || decide (x ≥ 2 ^ 63)) = false) (c1 : (items.isEmpty || x == 1) = false) (c2 : (decide (x ≤ 0) || items.isEmpty) = true) :
    Meets (Builtin.«tuple.__mul__» ⟨[.ref l, .int x u], []⟩) (fun _ R s => s.heap.get? l = some { cls := .type "tuple", dict := dd, data := .seq items n, slots := sl } ∧
      R (.ok (.ret (Value.ref s.heap.objs.size))) { s with heap := s.heap.push { cls := Value.type "tuple", data := Data.seq #[] }, toks := s.toks }) :=
  .of_wp fun prog w A R s h => by
    obtain ⟨hp, g, d, tk, os⟩ := s
    obtain ⟨hl, h⟩ := h
    have f1 := AutoSeq1.idx_int
    wp_walk using wpAny_loadPart' hl
    repeat (first
      | (refine wpAny_ite_false (decide_eq_false (by rw [c0]; exact Bool.false_ne_true)) ?_; wp_walk using wpAny_loadPart' hl)
      | (refine wpAny_ite_false (decide_eq_false (by rw [c1]; exact Bool.false_ne_true)) ?_; wp_walk using wpAny_loadPart' hl)
      | (refine wpAny_ite_true (decide_eq_true c2) ?_; wp_walk using wpAny_loadPart' hl))
    all_goals first | exact ⟨_, rfl, h⟩ | skip
def rRepA (K : PySem.W.Frag) : R2 := fun x y H Q => ∃ l k xs, x = .ref l ∧ y = .int k ∧ SqT K H l xs ∧ -4611686018427387904 ≤ k ∧ k ≤ 16777216 ∧ xs.length * k.toNat ≤ sizeLine ∧
  ((xs = [] ∨ k = 1) → Q (.ref l) H) ∧ (¬ (xs = [] ∨ k = 1) → ∀ p, H p = none → Q (.ref p) (upd H p (.tup (List.replicate k.toNat xs).flatten)))
theorem op_repA {X : Cx} : OpR X (binaryOp .Mult) (rRepA X.K) := by
  intro pins s σ H x y v u Q I rx ry h
  obtain ⟨l, k, xs, rfl, rfl, hT, h1, h2, hz, q1, q2⟩ := h
  cases rx
  obtain ⟨t, rfl⟩ := ry
  obtain ⟨its, r, ⟨⟨cls, dd, data, sl⟩, ho, hc, n, hd⟩, hs⟩ := I.tuple hT
  simp only at hc hd
  subst hc hd
  have hle : its.length = xs.length := r.length.symm
  have hsz0 : its.toArray.size = xs.length := by rw [List.size_toArray, hle]
  have hzl : sizeLine = 16777216 := sizeLine_eq
  have c0 : (decide (k < -(2 ^ 63)) || decide (k ≥ 2 ^ 63)) = false := by
    rw [decide_eq_false (by omega), decide_eq_false (by omega)] <;> rfl
  have hemp : its.toArray.isEmpty = true ↔ xs = [] := by
    rw [Array.isEmpty_iff_size_eq_zero, hsz0]
    exact List.length_eq_zero_iff
  have fin : ∀ {Q' : Value → Shared → Prop}, (call (.builtin "tuple.__mul__") [.ref l, .int k t] : Sem Value) = call (.builtin "tuple.__mul__") [.ref l, .int k t] → True := fun _ => trivial
  by_cases hsame : xs = [] ∨ k = 1
  · have c1 : (its.toArray.isEmpty || k == 1) = true := by
      rcases hsame with h | h
      · rw [hemp.mpr h, Bool.true_or]
      · rw [h]; simp
    refine wpAny_binaryOp_repeat_ref (T := "tuple") (U := "int") (by decide) ⟨_, ho, rfl⟩ (fun s' => typeIs_int s' k t) noFill_tuple_mul F.fills_int_mul F.slot_int_rmul repeat_tuple F.slot_int_index.lookup
      (call_meets F.slot_int_rmul (typeIs_int s k t) F.entry_int_rmul (F.args_int_rmul_2 _ _) (int_rmul_tuple k t l its.toArray n dd sl)
        ⟨ho, rfl, ⟨_, ho, rfl⟩, call_meets F.slot_tuple_mul ⟨_, ho, rfl⟩ F.entry_tuple_mul (F.args_tuple_mul_2 _ _) (tuple_mul_same l its.toArray n dd sl k t c0 c1) ⟨ho, ?_⟩⟩)
    exact ⟨.ref l, H, I, rfl, q1 hsame⟩
  · have c1 : (its.toArray.isEmpty || k == 1) = false := by
      rw [Bool.or_eq_false_iff]
      refine ⟨?_, beq_eq_false_iff_ne.mpr fun z => hsame (.inr z)⟩
      rw [← Bool.not_eq_true]
      exact fun z => hsame (.inl (hemp.mp z))
    have flen : (List.replicate k.toNat its).flatten.length ≤ sizeLine := by
      rw [PyProof.Rows.lm_len_rep_flat, hle, Nat.mul_comm]
      exact hz
    by_cases hk : k ≤ 0
    · have c2 : (decide (k ≤ 0) || its.toArray.isEmpty) = true := by rw [decide_eq_true hk, Bool.true_or]
      refine wpAny_binaryOp_repeat_ref (T := "tuple") (U := "int") (by decide) ⟨_, ho, rfl⟩ (fun s' => typeIs_int s' k t) noFill_tuple_mul F.fills_int_mul F.slot_int_rmul repeat_tuple F.slot_int_index.lookup
        (call_meets F.slot_int_rmul (typeIs_int s k t) F.entry_int_rmul (F.args_int_rmul_2 _ _) (int_rmul_tuple k t l its.toArray n dd sl)
          ⟨ho, rfl, ⟨_, ho, rfl⟩, call_meets F.slot_tuple_mul ⟨_, ho, rfl⟩ F.entry_tuple_mul (F.args_tuple_mul_2 _ _) (tuple_mul_none l its.toArray n dd sl k t c0 c1 c2) ⟨ho, ?_⟩⟩)
      have e0 : k.toNat = 0 := by omega
      have q2' := q2 hsame s.heap.objs.size (I.hok.fresh (Nat.le_refl _))
      rw [e0] at q2'
      refine ⟨.ref s.heap.objs.size, _, I.laid (t' := s.toks) (o := .tup []) (fun b ob q => Heap.get?_push_of_some _ q) (Nat.le_refl _) ?_, rfl, q2'⟩
      exact ⟨Nat.zero_le _, [], .nil, IsTup.new _ _⟩
    · have c2 : (decide (k ≤ 0) || its.toArray.isEmpty) = false := by
        rw [decide_eq_false hk, Bool.false_or]
        exact (Bool.or_eq_false_iff.mp c1).1
      have hm : ((its.toArray.size : Nat) : Int) * k ≤ 16777216 := by
        rw [hsz0]
        have a1 : ((xs.length : Nat) : Int) * k = ((xs.length * k.toNat : Nat) : Int) := by
          rw [Int.natCast_mul]
          congr 1
          omega
        omega
      have c4 : Builtin.Tuple.tupleTooMany (((its.toArray.size : Nat) : Int) * k) = false := by
        unfold Builtin.Tuple.tupleTooMany
        rw [sizeLine_eq]
        exact decide_eq_false (by omega)
      refine wpAny_binaryOp_repeat_ref (T := "tuple") (U := "int") (by decide) ⟨_, ho, rfl⟩ (fun s' => typeIs_int s' k t) noFill_tuple_mul F.fills_int_mul F.slot_int_rmul repeat_tuple F.slot_int_index.lookup
        (call_meets F.slot_int_rmul (typeIs_int s k t) F.entry_int_rmul (F.args_int_rmul_2 _ _) (int_rmul_tuple k t l its.toArray n dd sl)
          ⟨ho, rfl, ⟨_, ho, rfl⟩, call_meets F.slot_tuple_mul ⟨_, ho, rfl⟩ F.entry_tuple_mul (F.args_tuple_mul_2 _ _) (tuple_mulW l its.toArray n dd sl k t c0 c1 c2 (by omega) c4 (by rw [size_rep, List.size_toArray]; exact flen)) ⟨ho, ?_⟩⟩)
      rw [size_rep]
      refine ⟨.ref s.heap.objs.size, _, I.laid (t' := s.toks) (o := .tup (List.replicate k.toNat xs).flatten) (fun b ob q => Heap.get?_push_of_some _ q) (Nat.le_refl _) ?_, rfl, q2 hsame _ (I.hok.fresh (Nat.le_refl _))⟩
      exact ⟨by rw [PyProof.Rows.lm_len_rep_flat, Nat.mul_comm]; exact hz, _, r.rep k.toNat, IsTup.new _ _⟩
/-- a tuple so and so often -/
def rep3 {α : Type} (ds : List α) (k : Int) : List α := (List.replicate k.toNat ds).flatten
theorem rep3_len {α : Type} (ds : List α) (k : Int) : (rep3 ds k).length = ds.length * k.toNat := by
  unfold rep3
  rw [PyProof.Rows.lm_len_rep_flat, Nat.mul_comm]
theorem rep3_one {α : Type} (ds : List α) : rep3 ds 1 = ds := by
  unfold rep3
  simp
theorem rep3_nil {α : Type} (k : Int) : rep3 ([] : List α) k = [] := by
  unfold rep3
  simp
/-- *: of ints, of a tuple and an int -/
def rMulT3 : R3 := fun x y S Q => match x, y with
  | .p (.int i), .p (.int j) => MulOk i j ∧ Q (.p (.int (i * j))) S
  | .p (.tuple ds), .p (.int k) => (-4611686018427387904 ≤ k ∧ k ≤ 16777216 ∧ ds.length * k.toNat ≤ 16777216) ∧ Q (.p (.tuple (rep3 ds k))) S
  | _, _ => False
theorem oq_mulT {X : Cx} : OQ X (binaryOp .Mult) rMulT3 := opq (op_mul.or (op_mulW.or op_repA)) fun w S d e x y H Q R r0 p1 p2 t q => by
  have hz : sizeLine = 16777216 := sizeLine_eq
  unfold rMulT3 at t
  split at t
  · rename_i i j
    obtain ⟨hc, t⟩ := t
    rcases hc with hc | hc | hc
    · exact .inl ⟨i, j, dp_int p1, dp_int p2, .inl (by omega), q.int r0 t⟩
    · exact .inl ⟨i, j, dp_int p1, dp_int p2, .inr (by omega), q.int r0 t⟩
    · exact .inr (.inl ⟨i, j, dp_int p1, dp_int p2, hc, q.int r0 t⟩)
  · rename_i ds k
    obtain ⟨⟨h1, h2, h3⟩, t⟩ := t
    obtain ⟨l, xs, rfl, hq, ha⟩ := dp_tup_ref p1
    have hl := DpAll.length ha
    refine .inr (.inr ⟨l, k, xs, rfl, dp_int p2, Same.sqT r0.sub hq, h1, h2, by rw [hl]; omega, fun hs => ?_, fun _ => q.tup r0 (DpAll.flatten ha k.toNat) (by rw [← rep3, rep3_len]; omega) t⟩)
    rcases hs with hs | hs
    · subst hs
      cases ha
      rw [rep3_nil] at t
      exact q.old r0 p1 t
    · subst hs
      rw [rep3_one] at t
      exact q.old r0 p1 t
  · exact t.elim
/-! ### built-ins over lists -/
def allP {α : Type} (f : PyData → Option α) : List PyData → Option (List α)
  | [] => some []
  | d :: ds => match f d, allP f ds with
    | some x, some xs => some (x :: xs)
    | _, _ => none
def bl? : PyData → Option Bool
  | .bool b => some b
  | _ => none
def int? : PyData → Option Int
  | .int b => some b
  | _ => none
theorem allP_bl : ∀ {ds : List PyData} {bs : List Bool}, allP bl? ds = some bs → ds = bs.map PyData.bool
  | [], _, h => by cases h; rfl
  | d :: ds, bs, h => by
    unfold allP at h
    split at h
    · rename_i x xs h1 h2
      cases h
      rw [List.map_cons, ← allP_bl h2]
      cases d <;> first | (cases h1; rfl) | cases h1
    · cases h
theorem allP_int : ∀ {ds : List PyData} {bs : List Int}, allP int? ds = some bs → ds = bs.map PyData.int
  | [], _, h => by cases h; rfl
  | d :: ds, bs, h => by
    unfold allP at h
    split at h
    · rename_i x xs h1 h2
      cases h
      rw [List.map_cons, ← allP_int h2]
      cases d <;> first | (cases h1; rfl) | cases h1
    · cases h
theorem allP_bls : ∀ bs : List Bool, allP bl? (bs.map PyData.bool) = some bs
  | [] => rfl
  | b :: bs => by rw [List.map_cons]; unfold allP; rw [allP_bls bs]; rfl
theorem allP_ints : ∀ bs : List Int, allP int? (bs.map PyData.int) = some bs
  | [] => rfl
  | b :: bs => by rw [List.map_cons]; unfold allP; rw [allP_ints bs]; rfl
theorem dp_bls {K : PySem.W.Frag} {h : Hp} : ∀ {bs : List Bool} {vs : List V}, DpAll K h vs (bs.map PyData.bool) → vs = bs.map V.bl
  | [], _, r => by cases r; rfl
  | b :: bs, _, r => by
    cases r with
    | cons r1 r2 =>
      cases r1
      rw [dp_bls r2, List.map_cons]
theorem dp_ints {K : PySem.W.Frag} {h : Hp} : ∀ {bs : List Int} {vs : List V}, DpAll K h vs (bs.map PyData.int) → vs = bs.map V.int
  | [], _, r => by cases r; rfl
  | b :: bs, _, r => by
    cases r with
    | cons r1 r2 =>
      cases r1
      rw [dp_ints r2, List.map_cons]
def rBls3 (g : List Bool → PyData) : C3 := fun ds S Q => match ds with
  | [d] => match lst3 S d with
    | some es => (match allP bl? es with
      | some bs => Q (.p (g bs)) S
      | none => False)
    | none => False
  | _ => False
def rInts3 (C : List Int → Prop) (g : List Int → PyData) : C3 := fun ds S Q => match ds with
  | [d] => match lst3 S d with
    | some es => (match allP int? es with
      | some ns => C ns ∧ Q (.p (g ns)) S
      | none => False)
    | none => False
  | _ => False
abbrev rAll3 : C3 := rBls3 fun bs => .bool (bs.all id)
abbrev rAny3 : C3 := rBls3 fun bs => .bool (bs.any id)
def maxI : List Int → Int
  | [] => 0
  | x :: xs => xs.foldl (fun a b => if b > a then b else a) x
def minI : List Int → Int
  | [] => 0
  | x :: xs => xs.foldl (fun a b => if b < a then b else a) x
theorem maxI_go : ∀ (xs : List Int) (x : Int), x ≤ xs.foldl (fun a b => if b > a then b else a) x ∧ (∀ y ∈ xs, y ≤ xs.foldl (fun a b => if b > a then b else a) x) ∧ (xs.foldl (fun a b => if b > a then b else a) x = x ∨ xs.foldl (fun a b => if b > a then b else a) x ∈ xs)
  | [], x => ⟨Int.le_refl _, (fun y h => nomatch h), .inl rfl⟩
  | z :: xs, x => by
    rw [List.foldl_cons]
    obtain ⟨h1, h2, h3⟩ := maxI_go xs (if z > x then z else x)
    refine ⟨?_, fun y hy => ?_, ?_⟩
    · split at h1 <;> rename_i hc <;> simp only [hc, if_true, if_false] <;> omega
    · rcases List.mem_cons.mp hy with rfl | hy
      · split at h1 <;> rename_i hc <;> simp only [hc, if_true, if_false] <;> omega
      · exact h2 y hy
    · rcases h3 with h3 | h3
      · rw [h3]
        split
        · exact .inr List.mem_cons_self
        · exact .inl rfl
      · exact .inr (List.mem_cons_of_mem _ h3)
theorem minI_go : ∀ (xs : List Int) (x : Int), xs.foldl (fun a b => if b < a then b else a) x ≤ x ∧ (∀ y ∈ xs, xs.foldl (fun a b => if b < a then b else a) x ≤ y) ∧ (xs.foldl (fun a b => if b < a then b else a) x = x ∨ xs.foldl (fun a b => if b < a then b else a) x ∈ xs)
  | [], x => ⟨Int.le_refl _, (fun y h => nomatch h), .inl rfl⟩
  | z :: xs, x => by
    rw [List.foldl_cons]
    obtain ⟨h1, h2, h3⟩ := minI_go xs (if z < x then z else x)
    refine ⟨?_, fun y hy => ?_, ?_⟩
    · split at h1 <;> rename_i hc <;> simp only [hc, if_true, if_false] <;> omega
    · rcases List.mem_cons.mp hy with rfl | hy
      · split at h1 <;> rename_i hc <;> simp only [hc, if_true, if_false] <;> omega
      · exact h2 y hy
    · rcases h3 with h3 | h3
      · rw [h3]
        split
        · exact .inr List.mem_cons_self
        · exact .inl rfl
      · exact .inr (List.mem_cons_of_mem _ h3)
theorem maxI_of {ns : List Int} {m : Int} (hm : m ∈ ns) (h : ∀ y ∈ ns, y ≤ m) : maxI ns = m := by
  cases ns with
  | nil => cases hm
  | cons x xs =>
    obtain ⟨h1, h2, h3⟩ := maxI_go xs x
    show xs.foldl _ x = m
    have a : m ≤ xs.foldl (fun a b => if b > a then b else a) x := by
      rcases List.mem_cons.mp hm with rfl | hm
      · exact h1
      · exact h2 m hm
    have b : xs.foldl (fun a b => if b > a then b else a) x ≤ m := by
      rcases h3 with h3 | h3
      · rw [h3]; exact h x List.mem_cons_self
      · exact h _ (List.mem_cons_of_mem _ h3)
    omega
theorem minI_of {ns : List Int} {m : Int} (hm : m ∈ ns) (h : ∀ y ∈ ns, m ≤ y) : minI ns = m := by
  cases ns with
  | nil => cases hm
  | cons x xs =>
    obtain ⟨h1, h2, h3⟩ := minI_go xs x
    show xs.foldl _ x = m
    have a : xs.foldl (fun a b => if b < a then b else a) x ≤ m := by
      rcases List.mem_cons.mp hm with rfl | hm
      · exact h1
      · exact h2 m hm
    have b : m ≤ xs.foldl (fun a b => if b < a then b else a) x := by
      rcases h3 with h3 | h3
      · rw [h3]; exact h x List.mem_cons_self
      · exact h _ (List.mem_cons_of_mem _ h3)
    omega
abbrev rSum3 : C3 := rInts3 (fun _ => True) fun ns => .int ns.sum
abbrev rMaxL3 : C3 := rInts3 (fun ns => ns ≠ []) fun ns => .int (maxI ns)
abbrev rMinL3 : C3 := rInts3 (fun ns => ns ≠ []) fun ns => .int (minI ns)
section
variable {X : Cx}
theorem bls_inv {K : PySem.W.Frag} {w : W3} {H : Hp} {S : S3} {xs : List V} {ds : List D} {g : List Bool → PyData} {Q : K3} (r : Rel3 K w H S) (p0 : RepDs K w xs ds) (t : rBls3 g ds S Q) : ∃ a bs, xs = [.ref a] ∧ SqL K H a (bs.map V.bl) ∧ Q (.p (g bs)) S := by
  unfold rBls3 at t
  split at t
  · obtain ⟨v, rfl, p⟩ := rds1 p0
    split at t
    · rename_i es h1
      split at t
      · rename_i bs h2
        obtain ⟨a, ys, rfl, hq, ha, _⟩ := lst3_low r p h1
        rw [allP_bl h2] at ha
        rw [dp_bls ha] at hq
        exact ⟨a, bs, rfl, hq, t⟩
      · exact t.elim
    · exact t.elim
  · exact t.elim
theorem ints_inv {K : PySem.W.Frag} {w : W3} {H : Hp} {S : S3} {xs : List V} {ds : List D} {C : List Int → Prop} {g : List Int → PyData} {Q : K3} (r : Rel3 K w H S) (p0 : RepDs K w xs ds) (t : rInts3 C g ds S Q) : ∃ a ns, xs = [.ref a] ∧ SqL K H a (ns.map V.int) ∧ C ns ∧ Q (.p (g ns)) S := by
  unfold rInts3 at t
  split at t
  · obtain ⟨v, rfl, p⟩ := rds1 p0
    split at t
    · rename_i es h1
      split at t
      · rename_i bs h2
        obtain ⟨a, ys, rfl, hq, ha, _⟩ := lst3_low r p h1
        rw [allP_int h2] at ha
        rw [dp_ints ha] at hq
        exact ⟨a, bs, rfl, hq, t⟩
      · exact t.elim
    · exact t.elim
  · exact t.elim
theorem cq_all (hc : X.calm = true) : CQ X (.builtin "all") rAll3 := callq (cr_all hc) fun w S ds xs H Q R r0 p1 t q =>
  let ⟨a, bs, e, hq, t⟩ := bls_inv r0 p1 t
  ⟨a, bs, e, hq, q.bl r0 t⟩
theorem cq_any (hc : X.calm = true) : CQ X (.builtin "any") rAny3 := callq (cr_any hc) fun w S ds xs H Q R r0 p1 t q =>
  let ⟨a, bs, e, hq, t⟩ := bls_inv r0 p1 t
  ⟨a, bs, e, hq, q.bl r0 t⟩
theorem cq_sum (hc : X.calm = true) : CQ X (.builtin "sum") rSum3 := callq (cr_sum hc) fun w S ds xs H Q R r0 p1 t q =>
  let ⟨a, ns, e, hq, _, t⟩ := ints_inv r0 p1 t
  ⟨a, ns, e, hq, q.int r0 t⟩
theorem cq_maxL (hc : X.calm = true) : CQ X (.builtin "max") rMaxL3 := callq (cr_max hc) fun w S ds xs H Q R r0 p1 t q =>
  let ⟨a, ns, e, hq, hn, t⟩ := ints_inv r0 p1 t
  ⟨a, ns, e, hq, List.length_pos_iff.mpr hn, fun m h1 h2 => q.int r0 (maxI_of h1 h2 ▸ t)⟩
theorem cq_minL (hc : X.calm = true) : CQ X (.builtin "min") rMinL3 := callq (cr_min hc) fun w S ds xs H Q R r0 p1 t q =>
  let ⟨a, ns, e, hq, hn, t⟩ := ints_inv r0 p1 t
  ⟨a, ns, e, hq, List.length_pos_iff.mpr hn, fun m h1 h2 => q.int r0 (minI_of h1 h2 ▸ t)⟩
def rAbs3 : C3 := fun ds S Q => match ds with
  | [.p (.int i)] => Q (.p (.int (if i < 0 then -i else i))) S
  | _ => False
theorem cq_abs : CQ X (.builtin "abs") rAbs3 := callq call_abs fun w S ds xs H Q R r0 p1 t q => by
  unfold rAbs3 at t
  split at t
  · obtain ⟨v, rfl, p⟩ := rds1 p1
    have := dp_int p
    subst this
    exact ⟨_, rfl, q.int r0 t⟩
  · exact t.elim
end
end L3

namespace L3
open PySem PySem.Spec PyProof.Rows L2 RZ RT
/-! ### zip, enumerate, reversed -/
theorem zip3_get {xs ys : List PyData} {i : Nat} {x : PyData} (h : (zip3 xs ys)[i]? = some x) : ∃ a b, xs[i]? = some a ∧ ys[i]? = some b ∧ x = .tuple [a, b] := by
  unfold zip3 at h
  rw [List.getElem?_map] at h
  cases q : (xs.zip ys)[i]? with
  | none => rw [q] at h; cases h
  | some p =>
    rw [q] at h
    cases h
    rw [List.getElem?_zip_eq_some] at q
    exact ⟨p.1, p.2, q.1, q.2, rfl⟩
theorem zip3_len (xs ys : List PyData) : (zip3 xs ys).length = min xs.length ys.length := by
  unfold zip3
  rw [List.length_map, List.length_zip]
section
variable {K : PySem.W.Frag} {w : W3}
theorem pair_in {w' : W3} {H : Hp} {S : S3} {T : Addr} {v u : V} {x y : PyData} (r : Rel3 K w' H S) (hn : H T = none) (h1 : Dp K w'.h v x) (h2 : Dp K w'.h u y) :
    ∃ w'', Ex3 w' w'' ∧ Rel3 K w'' (upd H T (.tup [v, u])) S ∧ Dp K w''.h (.ref T) (.tuple [x, y]) := by
  obtain ⟨r2, e2⟩ := r.frz (u := .tup [v, u]) hn (by show (2 : Nat) ≤ _; rw [sizeLine_eq]; omega)
  exact ⟨_, e2, r2, Dp.tup (.inl (.inl upd_same)) (dpAll_mono e2.h [x, y] [v, u] (.cons h1 (.cons h2 .nil)))⟩
theorem itr_zipT {a b : Addr} {ds es : List PyData} (h : Dp K w.h (.ref a) (.tuple ds)) (h' : Dp K w.h (.ref b) (.tuple es)) : ItR K w (ItzT K a b) (zip3 ds es) fun _ => True := fun w' H S e r _ => by
  obtain ⟨a', xs, ea, hqa, ha⟩ := dp_tup_ref (dp_mono e.h _ _ h)
  obtain ⟨b', ys, eb, hqb, hb⟩ := dp_tup_ref (dp_mono e.h _ _ h')
  cases ea
  cases eb
  have hqa' := Same.sqT r.sub hqa
  have hqb' := Same.sqT r.sub hqb
  have la := DpAll.length ha
  have lb := DpAll.length hb
  refine ⟨fun i hi => ⟨xs, ys, hqa', hqb', by rw [zip3_len] at hi; omega⟩, fun i x hx => ?_⟩
  obtain ⟨x1, x2, g1, g2, rfl⟩ := zip3_get hx
  obtain ⟨v1, k1, k2⟩ := DpAll.get ha g1
  obtain ⟨v2, k3, k4⟩ := DpAll.get hb g2
  refine ⟨⟨xs, ys, v1, v2, hqa', hqb', k1, k3⟩, fun v H' y => ?_⟩
  obtain ⟨T, y1, y2, rfl, hn, rfl, z1, z2⟩ := y
  have := (z1 _ hqa').symm.trans k1
  cases this
  have := (z2 _ hqb').symm.trans k3
  cases this
  exact pair_in r hn k2 k4
theorem itr_zipL {a b : Addr} {d1 d2 : D} {ds es : List PyData} (h : RepD K w (.ref a) d1) (h' : RepD K w (.ref b) d2) : ItR K w (Itz K a b) (zip3 ds es) fun S => lst3 S d1 = some ds ∧ lst3 S d2 = some es := fun w' H S e r ok => by
  obtain ⟨a', xs, ea, hqa', ha, _⟩ := lst3_low r (h.mono0 e) ok.1
  obtain ⟨b', ys, eb, hqb', hb, _⟩ := lst3_low r (h'.mono0 e) ok.2
  cases ea
  cases eb
  have la := DpAll.length ha
  have lb := DpAll.length hb
  refine ⟨fun i hi => ⟨xs, ys, hqa', hqb', by rw [zip3_len] at hi; omega⟩, fun i x hx => ?_⟩
  obtain ⟨x1, x2, g1, g2, rfl⟩ := zip3_get hx
  obtain ⟨v1, k1, k2⟩ := DpAll.get ha g1
  obtain ⟨v2, k3, k4⟩ := DpAll.get hb g2
  refine ⟨⟨xs, ys, v1, v2, hqa', hqb', k1, k3⟩, fun v H' y => ?_⟩
  obtain ⟨T, y1, y2, rfl, hn, rfl, z1, z2⟩ := y
  have := (z1 _ hqa').symm.trans k1
  cases this
  have := (z2 _ hqb').symm.trans k3
  cases this
  exact pair_in r hn k2 k4
theorem enum3_get {xs : List PyData} {i : Nat} {x : PyData} (h : (enum3 xs)[i]? = some x) : ∃ a, xs[i]? = some a ∧ x = .tuple [.int (i : Nat), a] := by
  unfold enum3 at h
  rw [List.getElem?_map] at h
  rw [List.getElem?_zipIdx] at h
  cases q : xs[i]? with
  | none => rw [q] at h; simp at h
  | some a =>
    rw [q] at h
    simp at h
    exact ⟨a, rfl, h.symm⟩
theorem enum3_len (xs : List PyData) : (enum3 xs).length = xs.length := by
  unfold enum3
  rw [List.length_map, List.length_zipIdx]
theorem itr_enum {a : Addr} {d1 : D} {ds : List PyData} (h : RepD K w (.ref a) d1) : ItR K w (Ite K a) (enum3 ds) fun S => lst3 S d1 = some ds := fun w' H S e r ok => by
  obtain ⟨a', xs, ea, hqa', ha, _⟩ := lst3_low r (h.mono0 e) ok
  cases ea
  have la := DpAll.length ha
  refine ⟨fun i hi => ⟨xs, hqa', by rw [enum3_len] at hi; omega⟩, fun i x hx => ?_⟩
  obtain ⟨x1, g1, rfl⟩ := enum3_get hx
  obtain ⟨v1, k1, k2⟩ := DpAll.get ha g1
  refine ⟨⟨xs, v1, hqa', k1⟩, fun v H' y => ?_⟩
  obtain ⟨T, y1, rfl, hn, rfl, z1⟩ := y
  have := (z1 _ hqa').symm.trans k1
  cases this
  exact pair_in r hn (.int _) k2
theorem rev_get {α : Type} {xs : List α} {i : Nat} {x : α} (h : xs.reverse[i]? = some x) : i < xs.length ∧ xs[xs.length - 1 - i]? = some x := by
  have hi : i < xs.length := by
    have := (List.getElem?_eq_some_iff.mp h).1
    simpa using this
  rw [List.getElem?_reverse hi] at h
  exact ⟨hi, h⟩
theorem itr_revL {a : Addr} {d1 : D} {ds : List PyData} (h : RepD K w (.ref a) d1) : ItR K w (Itv K a ds.length) ds.reverse fun S => lst3 S d1 = some ds := fun w' H S e r ok => by
  obtain ⟨a', xs, ea, hqa', ha, _⟩ := lst3_low r (h.mono0 e) ok
  cases ea
  have la := DpAll.length ha
  refine ⟨fun i hi => by rw [List.length_reverse] at hi; exact hi, fun i x hx => ?_⟩
  obtain ⟨g0, g1⟩ := rev_get hx
  obtain ⟨v1, k1, k2⟩ := DpAll.get ha g1
  refine ⟨⟨g0, xs, v1, hqa', k1⟩, fun v H' y => ?_⟩
  obtain ⟨rfl, z1⟩ := y
  have := (z1 _ hqa').symm.trans k1
  cases this
  exact ⟨w', Ex3.refl _, r, k2⟩
theorem itr_revT {a : Addr} {ds : List PyData} (h : Dp K w.h (.ref a) (.tuple ds)) : ItR K w (ItvT K a ds.length) ds.reverse fun _ => True := fun w' H S e r _ => by
  obtain ⟨a', xs, ea, hqa, ha⟩ := dp_tup_ref (dp_mono e.h _ _ h)
  cases ea
  have hqa' := Same.sqT r.sub hqa
  have la := DpAll.length ha
  refine ⟨fun i hi => by rw [List.length_reverse] at hi; exact hi, fun i x hx => ?_⟩
  obtain ⟨g0, g1⟩ := rev_get hx
  obtain ⟨v1, k1, k2⟩ := DpAll.get ha g1
  refine ⟨⟨g0, xs, v1, hqa', k1⟩, fun v H' y => ?_⟩
  obtain ⟨rfl, z1⟩ := y
  have := (z1 _ hqa').symm.trans k1
  cases this
  exact ⟨w', Ex3.refl _, r, k2⟩
end
def tZipI3 (ta : TA3) : TI3 := fun env S Q => ta env S fun ds S1 => match ds with
  | [.p (.tuple xs), .p (.tuple ys)] => Q (zip3 xs ys) (fun _ => True) S1
  | [x, y] => (match lst3 S1 x, lst3 S1 y with
    | some xs, some ys => Q (zip3 xs ys) (fun S => lst3 S x = some xs ∧ lst3 S y = some ys) S1
    | _, _ => False)
  | _ => False
def tEnumerateI3 (ta : TA3) : TI3 := fun env S Q => ta env S fun ds S1 => match ds with
  | [x] => (match lst3 S1 x with
    | some xs => Q (enum3 xs) (fun S => lst3 S x = some xs) S1
    | _ => False)
  | _ => False
def tReversedI3 (te : TE3) : TI3 := fun env S Q => te env S fun x S1 => match x with
  | .p (.tuple xs) => Q xs.reverse (fun _ => True) S1
  | x => (match lst3 S1 x with
    | some xs => Q xs.reverse (fun S => lst3 S x = some xs) S1
    | _ => False)
section
variable {X : Cx} {e e2 : Expr} {te : TE3} {ta : TA3} {p pos tpos : Pos} {elts : List Expr} {kk : Nat} {tg : Expr}
theorem qi_zip (hc : X.calm = true) (hg : Gl X "zip") (hm : X.mg "zip" = none) (ha : QA X [e, e2] ta)
    (hs : starEach [e, e2] X.env = (false, eval e X.env) :: starEach [e2] X.env := by rfl) (hpl : (backTo pos (starEach [e2] X.env)).any (·.1) = false := by rfl) :
    QI X (.Tuple elts kk tpos) (.Call (.Name "zip" p) [e, e2] [] pos) (tZipI3 ta) := (pi_zipA hg hm ha hs hpl).imp fun σ H R ⟨w, env, S, Q, r0, en, t, q⟩ => by
  refine ⟨w, env, S, _, r0, en, t, fun w1 vs ds H1 S1 e1 r1 p1 t1 => ?_⟩
  split at t1
  · obtain ⟨v, u, rfl, p2, p3⟩ := rds2 p1
    obtain ⟨a, xs, rfl, hqa, ha⟩ := dp_tup_ref p2
    obtain ⟨b, ys, rfl, hqb, hb⟩ := dp_tup_ref p3
    have l1 := len_tup r1 p2
    exact ⟨a, b, xs, ys, rfl, .inr ⟨Same.sqT r1.sub hqa, Same.sqT r1.sub hqb, q w1 _ H1 S1 _ _ e1 r1 (itr_zipT p2 p3) (by rw [zip3_len]; omega) t1⟩⟩
  · obtain ⟨v, u, rfl, p2, p3⟩ := rds2 p1
    split at t1
    · rename_i xs' ys' h1 h2
      obtain ⟨a, xs, rfl, hqa, ha, hla⟩ := lst3_low r1 p2 h1
      obtain ⟨b, ys, rfl, hqb, hb, hlb⟩ := lst3_low r1 p3 h2
      exact ⟨a, b, xs, ys, rfl, .inl ⟨hqa, hqb, q w1 _ H1 S1 _ _ e1 r1 (itr_zipL p2 p3) (by rw [zip3_len]; omega) t1⟩⟩
    · exact t1.elim
  · exact t1.elim
theorem qi_enumerate (hc : X.calm = true) (hg : Gl X "enumerate") (hm : X.mg "enumerate" = none) (ha : QA X [e] ta) (hs : starEach [e] X.env = [(false, eval e X.env)] := by rfl) :
    QI X (.Tuple elts kk tpos) (.Call (.Name "enumerate" p) [e] [] pos) (tEnumerateI3 ta) := (pi_enum hg hm ha hs).imp fun σ H R ⟨w, env, S, Q, r0, en, t, q⟩ => by
  refine ⟨w, env, S, _, r0, en, t, fun w1 vs ds H1 S1 e1 r1 p1 t1 => ?_⟩
  split at t1
  · obtain ⟨v, rfl, p2⟩ := rds1 p1
    split at t1
    · rename_i xs' h1
      obtain ⟨a, xs, rfl, hqa, ha, hla⟩ := lst3_low r1 p2 h1
      exact ⟨a, xs, rfl, hqa, q w1 _ H1 S1 _ _ e1 r1 (itr_enum p2) (by rw [enum3_len]; exact hla) t1⟩
    · exact t1.elim
  · exact t1.elim
theorem qi_reversed (hc : X.calm = true) (hg : Gl X "reversed") (hm : X.mg "reversed" = none) (he : QE X e te) (hs : starEach [e] X.env = (false, eval e X.env) :: starEach [] X.env := by rfl) :
    QI X tg (.Call (.Name "reversed" p) [e] [] pos) (tReversedI3 te) := (pi_revA hg hm he hs).imp fun σ H R ⟨w, env, S, Q, r0, en, t, q⟩ => by
  refine ⟨w, env, S, _, r0, en, t, fun w1 v d H1 S1 e1 r1 p1 t1 => ?_⟩
  split at t1
  · obtain ⟨a, xs, rfl, hqa, ha⟩ := dp_tup_ref p1
    have hl := DpAll.length ha
    refine ⟨a, xs, rfl, .inr ⟨Same.sqT r1.sub hqa, ?_⟩⟩
    rw [hl]
    exact q w1 _ H1 S1 _ _ e1 r1 (itr_revT p1) (by rw [List.length_reverse]; exact len_tup r1 p1) t1
  · split at t1
    · rename_i xs' h1
      obtain ⟨a, xs, rfl, hqa, ha, hla⟩ := lst3_low r1 p1 h1
      have hl := DpAll.length ha
      refine ⟨a, xs, rfl, .inl ⟨hqa, ?_⟩⟩
      rw [hl]
      exact q w1 _ H1 S1 _ _ e1 r1 (itr_revL p1) (by rw [List.length_reverse]; exact hla) t1
    · exact t1.elim
/-! ### tuple(reversed(xs)), list(x) -/
def tTupRev3 (te : TE3) : TE3 := fun env S Q => te env S fun x S1 => match lst3 S1 x with
  | some ds => Q (.p (.tuple ds.reverse)) S1
  | none => False
theorem qe_tupRev {p2 pos2 : Pos} (hc : X.calm = true) (hg : Gl X "tuple") (hm : X.mg "tuple" = none) (hg2 : Gl X "reversed") (hm2 : X.mg "reversed" = none) (he : QE X e te)
    (hs : starEach [e] X.env = (false, eval e X.env) :: starEach [] X.env := by rfl)
    (hs2 : starEach [.Call (.Name "reversed" p2) [e] [] pos2] X.env = (false, eval (.Call (.Name "reversed" p2) [e] [] pos2) X.env) :: starEach [] X.env := by rfl) :
    QE X (.Call (.Name "tuple" p) [.Call (.Name "reversed" p2) [e] [] pos2] [] pos) (tTupRev3 te) := (pe_tupRev hc hg hm hg2 hm2 he hs hs2).imp fun σ H R ⟨w, env, S, Q, r0, en, t, q⟩ => by
  refine ⟨w, env, S, _, r0, en, t, fun w1 v d H1 S1 e1 r1 p1 t1 => ?_⟩
  split at t1
  · rename_i ds h1
    obtain ⟨a, xs, rfl, hq, ha, hz⟩ := lst3_low r1 p1 h1
    exact ⟨a, xs, rfl, hq, (q.mono e1).tup r1 (DpAll.reverse ha) (by rw [List.length_reverse]; exact hz) t1⟩
  · exact t1.elim
def tLstOf3 (ta : TA3) : TN3 := fun env S Q => ta env S fun ds S1 => match ds with
  | [d] => (match seq3 S1 d with
    | some es => Q es S1
    | none => False)
  | _ => False
theorem qn_listOf (hg : Gl X "list") (hm : X.mg "list" = none) (ha : QA X [e] ta) (he : starEach [e] X.env = (false, eval e X.env) :: starEach [] X.env := by rfl) (hpl : (backTo pos (starEach [] X.env)).any (·.1) = false := by rfl) :
    QN X (.Call (.Name "list" p) [e] [] pos) (tLstOf3 ta) := L2.PE.imp (pe_callTy call_list_of hg hm (by decide +kernel) ha (by decide) (by decide) he hpl) fun σ H R ⟨w, env, S, Q, r0, en, t, q⟩ => by
  refine ⟨w, env, S, _, r0, en, t, fun w1 vs ds H1 S1 e1 r1 p1 t1 => ?_⟩
  split at t1
  · obtain ⟨v, rfl, p2⟩ := rds1 p1
    split at t1
    · rename_i es h1
      obtain ⟨a, xs, rfl, hq, ha, hz⟩ := seq3_low r1 p2 h1
      exact ⟨a, xs, rfl, hq, fun l hn => q w1 l xs _ H1 S1 e1 r1 hn ha hz t1⟩
    · exact t1.elim
  · exact t1.elim
end
/-! ### repr of data: in a stack that shows nothing yet -/
mutual
theorem dp_nodict {K : PySem.W.Frag} {h : Hp} : ∀ (d : PyData) (v : V), Dp K h v d → d.hasDict = false
  | .none, _, _ => by simp only [PyData.hasDict]
  | .bool b, _, _ => by simp only [PyData.hasDict]
  | .int i, _, _ => by simp only [PyData.hasDict]
  | .str x, _, _ => by simp only [PyData.hasDict]
  | .list ds, _, r => by
    cases r with
    | lst hs ha => simp only [PyData.hasDict]; exact dp_nodicts ds _ ha
  | .tuple ds, _, r => by
    cases r with
    | tup hs ha => simp only [PyData.hasDict]; exact dp_nodicts ds _ ha
  | .dict _, _, r => by cases r
theorem dp_nodicts {K : PySem.W.Frag} {h : Hp} : ∀ (ds : List PyData) (vs : List V), DpAll K h vs ds → PyData.hasDictAll ds = false
  | [], _, _ => by simp only [PyData.hasDictAll]
  | d :: ds, _, r => by
    cases r with
    | cons r1 r2 => simp only [PyData.hasDictAll]; rw [dp_nodict d _ r1, dp_nodicts ds _ r2]; rfl
end
def ReprOk (d : PyData) : Prop := d.showable = true ∧ d.shown.length ≤ 16777216 ∧ d.depth ≤ 60
def rReprD3 : C3 := fun ds S Q => match ds with
  | [.p d] => ReprOk d ∧ Q (.p (.str d.shown)) S
  | _ => False
section
variable {X : Cx}
def rShow (K : PySem.W.Frag) : List V → Hp → VK → Prop := fun xs H Q => ∃ (v : V) (d : PyData), xs = [v] ∧ Dp K H v d ∧ ReprOk d ∧ Q (.str d.shown) H
theorem call_reprD (hg : X.A.guards = some []) (hu : X.A.units + 64 < cLine) : CallR X (.builtin "repr") (rShow X.K) := by
  intro pins s σ H xs us Q I r h
  obtain ⟨v, d, rfl, hd, ⟨h1, h2, h3⟩, q⟩ := h
  have hz : sizeLine = 16777216 := sizeLine_eq
  obtain ⟨u, rfl, r1⟩ := vals1 r
  obtain ⟨as, rd⟩ := Dp.reads I d v u hd r1
  have nod : d.hasDict = true → sysModules ∉ as := PyData.noDict_hsm (dp_nodict d v hd)
  cases d with
  | none =>
    cases hd
    cases r1
    simp only [PyData.shown] at q
    exact PySem.P.repr_of_none ⟨.str _, H, I.tok _, ⟨_, rfl⟩, q⟩
  | bool b =>
    cases hd
    cases r1
    simp only [PyData.shown] at q
    exact PySem.P.repr_of_bool ⟨.str _, H, I.tok _, ⟨_, rfl⟩, q⟩
  | int i =>
    cases hd
    obtain ⟨t, rfl⟩ := r1
    simp only [PyData.shown] at q
    have h1' : i.natAbs.log2 < 1920 := by
      simp only [PyData.showable] at h1
      exact of_decide_eq_true h1
    exact PySem.P.repr_of_int h1' ⟨.str _, H, I.tok _, ⟨_, rfl⟩, q⟩
  | str x =>
    cases hd
    obtain ⟨t, rfl⟩ := r1
    simp only [PyData.shown] at q h2
    exact PySem.P.repr_of_str ⟨.str _, H, I.tok _, ⟨_, rfl⟩, q⟩ (by omega)
  | list ds =>
    cases hd with
    | lst hs ha =>
      cases r1
      refine repr_of_reads' rd h1 nod hg (by omega) (fun b o e => e) (fun h' u tk hk => ?_) (by omega)
      exact ⟨.str _, H, I.kept (t' := tk) hk, ⟨_, rfl⟩, q⟩
  | tuple ds =>
    cases hd with
    | tup hs ha =>
      cases r1
      refine repr_of_reads' rd h1 nod hg (by omega) (fun b o e => e) (fun h' u tk hk => ?_) (by omega)
      exact ⟨.str _, H, I.kept (t' := tk) hk, ⟨_, rfl⟩, q⟩
  | dict kvs => cases hd
theorem cq_reprD (hg : X.A.guards = some []) (hu : X.A.units + 64 < cLine) : CQ X (.builtin "repr") rReprD3 := callq (call_reprD hg hu) fun w S ds xs H Q R r0 p1 t q => by
  unfold rReprD3 at t
  split at t
  · obtain ⟨v, rfl, p⟩ := rds1 p1
    exact ⟨v, _, rfl, dp_mono r0.sub _ _ p, t.1, q.str r0 t.2⟩
  · exact t.elim
end
/-! ### defs whose promise holds in a stack that shows nothing -/
structure FnG (P : Program) (w : World) (K : PySem.W.Frag) (mg : Str → Option Value) (base : Heap) (k : Nat) (f : Addr) (fd : FuncData) (ps : List Str) (sp : L2.Sp) : Prop where
  len : ∀ vs H Q E, sp vs H Q E → vs.length = ps.length
  run : ∀ (A : Around) (outer : List Env) (s : Shared) (H : Hp) (args : Args) (us : List Value) (vs : List V) (Q : VK) (E : XK), A.guards = some [] → Room k A → Env0 P w K mg base A outer s H → BindsTo s fd args (ps.zip us) → Vals vs us → sp vs H Q E →
    codeAny (model P w) A (.call (.ref f) args) (CR CX0 outer P w H s Q E) s
section
variable {P : Program} {w : World} {K : PySem.W.Frag} {mg : Str → Option Value} {base : Heap}
theorem fnG_of {x qual : Str} {st : Stmt} {f : Addr} {fd : FuncData} {N ps : List Str} {k : Nat} {sp : L2.Sp} (F : Fun K x qual st f fd) (S : FnScope N ps (defScope st)) (len : ∀ vs H Q E, sp vs H Q E → vs.length = ps.length)
    (hbody : ∀ (cdv : Value) (A : Around) (outer : List Env) (s : Shared) (H : Hp) (vs : List V) (Q : VK) (E : XK), A.guards = some [] → Room k (A.deeper (envOfC qual (defScope st) s.heap.objs.size f cdv)) → sp vs H Q E →
      ∃ t, PSs (cxOf CX0 P w K mg base N qual (defScope st) f cdv A outer s H E).nox (defBody st) t ∧ t { nx := fun _ H' => Q .non H', rt := Q } (L2.start N vs) H) : FnG P w K mg base (k + 1) f fd ps sp := by
  obtain ⟨oc, od, kV, doc, pm, an, cdv, ct, osl, rfl, lk, hcd⟩ := F.ex
  refine ⟨len, fun A outer s H args us vs Q E hgd hr e0 hb r hsp => ?_⟩
  have old : ∀ b o, base.get? b = some o → s.heap.get? b = some o := fun b o e => (e0.bs b o e).1
  have KX : K.In s.heap := e0.mod.kin.keeps old
  have hkind : ∀ y ∈ ps.zip us, (defScope st).names.lookup y.1 = some .local ∨ ((defScope st).names.lookup y.1 = some .cell ∧ ((cellsFrom (s.heap.objs.size + 1) (defScope st).names []).lookup y.1).isSome = true) := fun y hy =>
    (S.par y.1 (List.of_mem_zip (a := y.1) (b := y.2) hy).1).imp id fun q => ⟨q, PySem.W.cellsFrom_some _ _ _ (.inl q)⟩
  refine codeAny_call_function hr.depth (KX _ _ lk) rfl S.co S.gen rfl (PySem.W.codeRec_of KX hcd) (hb _ _ _ _ (wpAny_newFunctionEnv_cells S.kind hkind fun env he s1 x => ?_))
  subst he
  refine ⟨(e0.mod.nolimit.keeps old).keeps x.toInCall.keep, codeAny_func ?_⟩
  obtain ⟨t, ht, hq⟩ := hbody cdv A outer s H vs Q E hgd (hr.deeper _) hsp
  refine wpAny_mono (ht.nox.run [] s1 (L2.start N vs) H _ (inv_start S hr.hd e0 (len _ _ _ _ hsp) r x) hq) (fun fl s' hs => ?_) fun e s' hs => hs
  cases fl with
  | ret u =>
    obtain ⟨v, σ', H', J, rv, q⟩ := hs
    exact ⟨v, H', J.os, J.bare, J.base, J.hok, rv, q⟩
  | next =>
    obtain ⟨σ', H', J, q⟩ := hs
    exact ⟨.non, H', J.os, J.bare, J.base, J.hok, rfl, q⟩
  | brk =>
    obtain ⟨_, _, _, q⟩ := hs
    exact False.elim q
  | cont =>
    obtain ⟨_, _, _, q⟩ := hs
    exact False.elim q
end
structure Ok3G (P : Program) (w : World) (K : PySem.W.Frag) (mg : Str → Option Value) (base : Heap) (k : Nat) (x : Str) (sp : Sp3) : Prop where
  ex : ∃ f fd ps, mg x = some (.ref f) ∧ PySem.W.keepIn K (.ref f) = true ∧ Binds K fd ps [] ∧ FnG P w K mg base k f fd ps (fun vs H Q _ => lowC K sp vs H Q)
section
variable {P : Program} {w : World} {K : PySem.W.Frag} {mg : Str → Option Value} {base : Heap}
theorem Ok3G.fnG {x : Str} {st : Stmt} {f : Addr} {fd : FuncData} {N ps : List Str} {k : Nat} {sp : Sp3} {t3 : TS3} (F : Fun K x x st f fd) (b : Binds K fd ps []) (sc : FnScope N ps (defScope st))
    (hlen : ∀ ds S Q, sp ds S Q → ds.length = ps.length)
    (body : ∀ (cdv : Value) (A : Around) (outer : List Env) (s : Shared) (H : Hp) (E : XK), A.guards = some [] → Room k (A.deeper (envOfC x (defScope st) s.heap.objs.size f cdv)) → QSs (cxOf CX0 P w K mg base N x (defScope st) f cdv A outer s H E).nox (defBody st) t3)
    (read : ∀ ds S Q, sp ds S Q → t3 { nx := fun _ S' => Fin3 S Q (.p .none) S', rt := Fin3 S Q } (env0 N.length ds) S) : FnG P w K mg base (k + 1) f fd ps (fun vs H Q _ => lowC K sp vs H Q) := by
  refine fnG_of F sc (fun vs H Q E h => ?_) (fun cdv A outer s H vs Q E hgd hr h => ?_)
  · obtain ⟨w3, S, ds, Q3, r, rd, hs, q⟩ := h
    rw [RepDs.length rd]
    exact hlen ds S Q3 hs
  · obtain ⟨w3, S, ds, Q3, r, rd, hs, q⟩ := h
    refine ⟨_, body cdv A outer s H E hgd hr, ?_⟩
    have fin : ∀ (w4 : W3) (v : V) (d : D) (H' : Hp) (S' : S3), Ex3 w3 w4 → Rel3 K w4 H' S' → RepD K w4 v d → Fin3 S Q3 d S' → Q v H' := fun w4 v d H' S' e4 r4 p4 ⟨L, hL, hb, h4⟩ => by
      refine q ⟨w4.al.take L, w4.h, w4.pn⟩ v d H' (S'.take L) ⟨⟨?_, e4.h⟩, e4.pn⟩ (r4.shrink L) ?_ h4
      · obtain ⟨t, ht⟩ := e4.al
        refine ⟨t.take (L - w3.al.length), ?_⟩
        show w4.al.take L = _
        rw [ht, List.take_append, List.take_of_length_le (by rw [r.len]; exact hL)]
      · cases d with
        | p d => exact p4
        | loc m =>
          obtain ⟨a, h5, h6⟩ := p4
          exact ⟨a, by show (w4.al.take L)[m]? = _; rw [List.getElem?_take_of_lt hb]; exact h5, h6⟩
    exact ⟨w3, _, S, _, r, env_start rd, read ds S Q3 hs, ⟨fun w4 σ' H' env' S' e4 r4 _ h4 => fin w4 .non (.p .none) H' S' e4 r4 rep_non h4, fun w4 v d H' S' e4 r4 p4 h4 => fin w4 v d H' S' e4 r4 p4 h4,
      fun _ _ _ _ _ _ _ _ h => h.elim, fun _ _ _ _ _ _ _ _ h => h.elim⟩⟩
theorem Ok3G.mk' {x : Str} {st : Stmt} {f : Addr} {fd : FuncData} {N ps : List Str} {k : Nat} {sp : Sp3} {t3 : TS3} (F : Fun K x x st f fd) (hm : mg x = some (.ref f)) (b : Binds K fd ps []) (sc : FnScope N ps (defScope st))
    (hlen : ∀ ds S Q, sp ds S Q → ds.length = ps.length)
    (body : ∀ (cdv : Value) (A : Around) (outer : List Env) (s : Shared) (H : Hp) (E : XK), A.guards = some [] → Room k (A.deeper (envOfC x (defScope st) s.heap.objs.size f cdv)) → QSs (cxOf CX0 P w K mg base N x (defScope st) f cdv A outer s H E).nox (defBody st) t3)
    (read : ∀ ds S Q, sp ds S Q → t3 { nx := fun _ S' => Fin3 S Q (.p .none) S', rt := Fin3 S Q } (env0 N.length ds) S) : Ok3G P w K mg base (k + 1) x sp :=
  ⟨f, fd, ps, hm, F.kp, b, Ok3G.fnG F b sc hlen body read⟩
end
section
variable {X : Cx} {e : Expr} {es : List Expr} {tr : TA3} {p pos : Pos} {x : Str} {k : Nat} {sp : Sp3}
theorem run_fnG {f : Addr} {fd : FuncData} {ps : List Str} {sp : L2.Sp} {E : XK} {pins : List (Addr × Obj)} {σ : L2.St} {H : Hp} {s : Shared} {Q : VK} {us : List Value} {vs : List V} (F : FnG X.prog X.w X.K X.mg X.base k f fd ps sp) (hg : X.A.guards = some []) (hr : Room k X.A) (hb : Binds X.K fd ps [])
    (I : L2.Inv X pins σ H s) (r : Vals vs us) (h : sp vs H Q E) : wpAny (model X.prog X.w) X.A (call (.ref f) us) (EP X pins σ Q) X.xe s := by
  have hl : us.length = ps.length := by rw [← r.length]; exact F.len _ _ _ _ h
  have b := hb s us I.kIn (by rw [List.append_nil]; exact hl)
  rw [List.append_nil] at b
  refine wpAny_call (codeAny_mono (F.run X.A X.stack s H ⟨us, []⟩ us vs Q E hg hr I.env0 b r h) fun r s' hq => ?_)
  cases r with
  | error e => exact hq.elim
  | ok fl =>
    cases fl with
    | ret u => exact I.after hq
    | next => exact False.elim hq
    | brk => exact False.elim hq
    | cont => exact False.elim hq
theorem qe_callG (F : Ok3G X.prog X.w X.K X.mg X.base k x sp) (hgd : X.A.guards = some []) (hr : Room k X.A) (hg : Gl X x) (ha : QA X (e :: es) tr) (hdb : (x == ("__debug__" : Str)) = false := by decide) (he : starEach (e :: es) X.env = (false, eval e X.env) :: starEach es X.env := by rfl) (hpl : (backTo pos (starEach es X.env)).any (·.1) = false := by rfl) :
    QE X (.Call (.Name x p) (e :: es) [] pos) (tCB3 sp tr) := by
  obtain ⟨f, fd, ps, hm, kp, b, ok⟩ := F.ex
  refine ⟨fun pins s σ H Q I h => ?_⟩
  refine wpAny_Call_Name_kw (ld_glob I hg hm ?_ hdb)
  refine PySem.W.callWith_K (h₀ := X.base) I.ok.mod.kin kp (thn (ha.run pos pins s σ H (fun vs H1 => lowC X.K sp vs H1 Q) I (lowCB h)) fun us s1 ⟨vs, H1, I1, r, q⟩ => ⟨I1.kIn, ?_⟩) he hpl
  exact run_fnG (E := fun _ _ _ => False) ok hgd hr b I1 r q
end
/-! ### the law's head, in a stack that shows nothing (callerA's) -/
theorem call_headG {P : Program} {w : World} {K : PySem.W.Frag} {mg mb : Str → Option Value} {k : Nat} {fa a : Addr} {fd : FuncData} {x : Str} {sp : L2.Sp} {s₁ : Shared} {vs : List Value} {ns : List Int}
    (KX : K.In s₁.heap) (hns : s₁.heap.Ns mainGlobals mg) (hb : s₁.heap.Ns builtinsNs mb) (hbb : ∀ x : Str, x ≠ "__name__" → mb x = bootBuiltins x) (hlim : s₁.heap.NoLimit) (hg : s₁.gens = #[])
    (ha : s₁.heap.get? a = some { cls := .type "list", data := .seq vs.toArray }) (hi : IntsAre vs ns) (hl : ns.length ≤ sizeLine) (hr : Room k callerA)
    (F : ∀ base : Heap, K.In base → base.Ns mainGlobals mg → FnG P w K mg base k fa fd [x] sp) (hbind : ∀ (s : Shared) (u : Value), BindsTo s fd ⟨[u], []⟩ [(x, u)])
    (hsp : ∀ H : Hp, Only H → SqL K H a (ns.map V.int) → sp [.ref a] H (fun v _ => v = .bl true) fun _ _ _ => False) :
    codeAny (model P w) callerA (.call (.ref fa) ⟨[.ref a], []⟩) (fun r s' => r = .ok (.ret (.bool true)) ∧ OldK s₁.heap s'.heap ∧ s'.os = s₁.os ∧ AllBare s'.gens) s₁ := by
  have rv := vals_ints hi
  have lenV := hi.length
  have go : ∀ H : Hp, Only H → SqL K H a (ns.map V.int) → HOk P w H s₁.heap → (∀ b, H b ≠ none → b = a) → (H a ≠ none → K.lookup a = none) →
      codeAny (model P w) callerA (.call (.ref fa) ⟨[.ref a], []⟩) (fun r s' => r = .ok (.ret (.bool true)) ∧ OldK s₁.heap s'.heap ∧ s'.os = s₁.os ∧ AllBare s'.gens) s₁ := fun H hO hS hok hA hK => by
    have free : ∀ {b : Addr}, (b = a → False) → H b = none := fun {b} n => by
      cases q : H b with
      | none => rfl
      | some u => exact (n (hA b (by rw [q]; simp))).elim
    have nsK : ∀ {b : Addr} {m : Str → Option Value}, s₁.heap.Ns b m → (hidT s₁.heap H).Ns b m := fun {b m} ⟨o, es, ep, e, d, r⟩ => ⟨o, es, ep, hidT_get e (free fun z => by
      subst z
      rw [ha] at e
      cases e
      cases (show Data.seq vs.toArray _ = Data.dict es ep from d)), d, r⟩
    have hKb : K.In (hidT s₁.heap H) := fun b o e => hidT_get (KX b o e) (by
      cases q : H b with
      | none => rfl
      | some u =>
        have z := hA b (by rw [q]; simp)
        subst z
        rw [hK (by rw [q]; simp)] at e
        cases e)
    have hM : Mod K mg (hidT s₁.heap H) := ⟨hKb, nsK hns, ⟨mb, nsK hb, hbb⟩, let ⟨mc, h1, h2⟩ := hlim; ⟨mc, nsK h1, h2⟩⟩
    have e0 : Env0 P w K mg (hidT s₁.heap H) callerA [] s₁ H := ⟨rfl, hM, fun b o e => of_hidT e, Nat.le_of_eq (hidT_size _ _), trivial, fun b hb => absurd (show b ∈ ([] : List Addr) from hb) (by simp), hok, .of_eq hg⟩
    refine codeAny_mono ((F _ hKb (nsK hns)).run callerA [] s₁ H ⟨[.ref a], []⟩ [.ref a] [.ref a] _ _ rfl hr e0 (hbind s₁ (.ref a)) (.cons rfl .nil) (hsp H hO hS)) fun r s' h => ?_
    cases r with
    | error e => exact h.elim
    | ok fl =>
      cases fl with
      | next => exact False.elim h
      | brk => exact False.elim h
      | cont => exact False.elim h
      | ret u =>
        obtain ⟨v, H', os, bare, un, hok', r', q⟩ := h
        subst q
        cases r'
        refine ⟨rfl, OldK.of_keep fun b o e => ?_, os, bare⟩
        cases q : H b with
        | none => exact un.keep b o e q (by intro z; exact absurd (show b ∈ ([] : List Addr) from z) (by simp)) (by simp)
        | some u =>
          rcases hO b with z | ⟨ob, xs, z⟩
          · rw [q] at z; cases z
          · obtain ⟨e1, _⟩ := hok b _ z
            obtain ⟨e2, _⟩ := hok' b _ (un.frzs b ob _ z)
            rw [e] at e1
            cases e1
            exact e2
  cases hk : K.lookup a with
  | some o =>
    have e := KX a o hk
    rw [ha] at e
    cases e
    exact go (fun _ => none) (fun _ => .inl rfl) (.inr ⟨_, vs.toArray, _, hk, rfl, rfl, rfl, by rw [List.size_toArray, lenV]; exact hl, by simpa using rv⟩) (fun b u z => nomatch z) (fun b z => absurd rfl z) fun z => absurd rfl z
  | none =>
    refine go (upd (fun _ => none) a (.frz { cls := .type "list", data := .seq vs.toArray } (.lst (ns.map V.int)))) (fun b => ?_) (.inl (.inr ⟨{ cls := .type "list", data := .seq vs.toArray }, upd_same⟩)) (fun b u z => ?_) (fun b z => ?_) fun _ => hk
    · by_cases hb : b = a
      · subst hb
        exact .inr ⟨_, _, upd_same⟩
      · exact .inl (upd_ne hb)
    · by_cases hb : b = a
      · subst hb
        rw [upd_same] at z
        cases z
        exact ⟨ha, by rw [List.length_map]; exact hl, vs, _, rv, ha⟩
      · rw [upd_ne hb] at z
        cases z
    · by_cases hb : b = a
      · exact hb
      · exact absurd (upd_ne hb) z
theorem walk_ofG {l : PySem.W.OpenLaw} {n k : Nat} {q : Program} {loose : List Str} {XP : (Str → Option Value) → Heap → Prop} {YP : World → Heap → Prop} {d : DefRec} {K : Params → PySem.W.Frag} {sp : World → L2.Sp} {x : Str}
    (hn : l.most = some n) (hn2 : n ≤ sizeLine) (hdf : d.params.defaults = []) (hr : Room k callerA)
    (hY : ∀ (w : World) (h : Heap), YP w h → (K w.params).In h)
    (F : ∀ (w : World) (mg : Str → Option Value) (fa : Addr) (h : Heap), (K w.params).In h → h.Ns mainGlobals mg → mg d.name = some (.ref fa) →
      ∃ fd : FuncData, (∀ (s : Shared) (u : Value), BindsTo s fd ⟨[u], []⟩ [(x, u)]) ∧
        ∀ base : Heap, (K w.params).In base → base.Ns mainGlobals mg → FnG l.prog w (K w.params) mg base k fa fd [x] (sp w))
    (hsp : ∀ (w : World) (H : Hp) (a : Addr) (ns : List Int), ns.length ≤ n → Only H → SqL (K w.params) H a (ns.map V.int) → sp w [.ref a] H (fun v _ => v = .bl true) fun _ _ _ => False) :
    PySem.W.WalkO q loose XP YP l.row.toRowW d [] (fun f vs => PySem.call f vs) := by
  refine Att.attach_call hn hdf fun w s₀ s₁ mg mb fa o pm cd doc a vs ns G Y ho hd hcd hmg hobj hints hlen hg => ?_
  obtain ⟨fd, hb, hF⟩ := F w mg fa _ (hY w _ Y) G.T.g hmg
  exact call_headG (hY w _ Y) G.T.g G.T.b G.T.builtins G.T.nolimit hg hobj hints (Nat.le_trans hlen hn2) hr hF hb fun H hO hS => hsp w H a ns hlen hO hS
end L3

namespace L3
open PySem PySem.Spec PyProof.Rows L2
/-! ### == with texts -/
def rEqS3 : R3 := fun x y S Q => match x, y with
  | .p (.str a), .p (.str b) => Q (.p (.bool (decide (a = b)))) S
  | .p d, .p e => (SeqAt.shaped d = true ∧ SeqAt.shaped e = true) ∧ Q (.p (.bool (PyData.eqv d e))) S
  | _, _ => False
def rNeS3 : R3 := fun x y S Q => match x, y with
  | .p (.str a), .p (.str b) => Q (.p (.bool (!decide (a = b)))) S
  | .p d, .p e => (SeqAt.shaped d = true ∧ SeqAt.shaped e = true) ∧ Q (.p (.bool (!PyData.eqv d e))) S
  | _, _ => False
theorem dec_str {a b : Str} : decide (V.str a = V.str b) = decide (a = b) := by
  rw [Bool.eq_iff_iff]
  simp
theorem oq_eqS {X : Cx} (hu : X.A.units + 64 < cLine) : OQ X (compareOp .Eq) rEqS3 := opq (op_eq.or (op_eqD hu)) fun w S d e x y H Q R r0 p1 p2 t q => by
  unfold rEqS3 at t
  split at t
  · have := dp_str p1
    subst this
    have := dp_str p2
    subst this
    refine .inl ⟨rfl, ?_⟩
    rw [dec_str]
    exact q.bl r0 t
  · exact .inr ⟨_, _, dp_mono r0.sub _ _ p1, dp_mono r0.sub _ _ p2, t.1.1, t.1.2, q.bl r0 t.2⟩
  · exact t.elim
theorem oq_neS {X : Cx} (hu : X.A.units + 64 < cLine) : OQ X (compareOp .NotEq) rNeS3 := opq (op_ne.or (op_neD hu)) fun w S d e x y H Q R r0 p1 p2 t q => by
  unfold rNeS3 at t
  split at t
  · have := dp_str p1
    subst this
    have := dp_str p2
    subst this
    refine .inl ⟨rfl, ?_⟩
    rw [dec_str]
    exact q.bl r0 t
  · exact .inr ⟨_, _, dp_mono r0.sub _ _ p1, dp_mono r0.sub _ _ p2, t.1.1, t.1.2, q.bl r0 t.2⟩
  · exact t.elim
/-! ### data that can be shown and told apart -/
structure Shows (d : PyData) (B k : Nat) : Prop where
  ok : d.showable = true
  len : d.shown.length ≤ B
  dep : d.depth ≤ k
  lay : d.canLay0 = true
theorem Shows.le {d : PyData} {B B' k k' : Nat} (h : Shows d B k) (hb : B ≤ B') (hk : k ≤ k') : Shows d B' k' := ⟨h.ok, Nat.le_trans h.len hb, Nat.le_trans h.dep hk, h.lay⟩
theorem Shows.repr {d : PyData} {B k : Nat} (h : Shows d B k) (hb : B ≤ 16777216) (hk : k ≤ 60) : ReprOk d := ⟨h.ok, Nat.le_trans h.len hb, Nat.le_trans h.dep hk⟩
theorem Shows.shaped {d : PyData} {B k : Nat} (h : Shows d B k) (hk : k ≤ 64) : SeqAt.shaped d = true := by
  unfold SeqAt.shaped
  rw [h.lay, decide_eq_true (Nat.le_trans h.dep hk)]
  rfl
theorem Shows.int {i : Int} (h : i.natAbs < 10 ^ 12) : Shows (.int i) 13 0 := by
  refine ⟨?_, PyData.shown_int_le h, Nat.le_refl _, rfl⟩
  simp only [PyData.showable]
  refine decide_eq_true ?_
  have := PySem.Flt.log2_lt_of (show 0 < 64 by decide) (show i.natAbs < 2 ^ 64 by omega)
  omega
theorem shows_all {B k : Nat} : ∀ {ds : List PyData}, (∀ x ∈ ds, Shows x B k) → PyData.showableAll ds = true ∧ ((PyData.shownAll ds).map (·.length)).sum ≤ ds.length * B ∧ (PyData.shownAll ds).length = ds.length ∧ PyData.depthAll ds ≤ k ∧ PyData.canLayAll0 ds = true
  | [], _ => by simp [PyData.showableAll, PyData.shownAll, PyData.depthAll, PyData.canLayAll0]
  | d :: ds, h => by
    obtain ⟨h1, h2, h3, h4, h5⟩ := shows_all (ds := ds) fun x hx => h x (List.mem_cons_of_mem _ hx)
    have h0 := h d List.mem_cons_self
    refine ⟨?_, ?_, ?_, ?_, ?_⟩
    · simp only [PyData.showableAll, h0.ok, h1, Bool.and_self]
    · simp only [PyData.shownAll, List.map_cons, List.sum_cons, List.length_cons]
      have := h0.len
      rw [Nat.add_mul]
      omega
    · simp only [PyData.shownAll, List.length_cons, h3]
    · simp only [PyData.depthAll]
      exact Nat.max_le.mpr ⟨h0.dep, h4⟩
    · simp only [PyData.canLayAll0, h0.lay, h5, Bool.and_self]
theorem Shows.tup {ds : List PyData} {B k n : Nat} (h : ∀ x ∈ ds, Shows x B k) (hn : ds.length ≤ n) : Shows (.tuple ds) (n * (B + 2) + 3) (k + 1) := by
  obtain ⟨h1, h2, h3, h4, h5⟩ := shows_all h
  refine ⟨?_, ?_, ?_, ?_⟩
  · simp only [PyData.showable]; exact h1
  · simp only [PyData.shown]
    refine Nat.le_trans (tupleText_len_le _) ?_
    rw [h3]
    have : ds.length * B ≤ n * B := Nat.mul_le_mul_right _ hn
    have e : n * (B + 2) = n * B + n * 2 := Nat.mul_add ..
    omega
  · simp only [PyData.depth]; omega
  · simp only [PyData.canLay0]; exact h5
theorem Shows.lst {ds : List PyData} {B k n : Nat} (h : ∀ x ∈ ds, Shows x B k) (hn : ds.length ≤ n) : Shows (.list ds) (n * (B + 2) + 3) (k + 1) := by
  obtain ⟨h1, h2, h3, h4, h5⟩ := shows_all h
  refine ⟨?_, ?_, ?_, ?_⟩
  · simp only [PyData.showable]; exact h1
  · simp only [PyData.shown]
    refine Nat.le_trans (listText_len_le _) ?_
    rw [h3]
    have : ds.length * B ≤ n * B := Nat.mul_le_mul_right _ hn
    have e : n * (B + 2) = n * B + n * 2 := Nat.mul_add ..
    omega
  · simp only [PyData.depth]; omega
  · simp only [PyData.canLay0]; exact h5
/-- a tuple of ints -/
def tupI (ns : List Int) : PyData := .tuple (ns.map PyData.int)
theorem shows_tupI {ns : List Int} {n : Nat} (h : ∀ x ∈ ns, x.natAbs < 10 ^ 12) (hn : ns.length ≤ n) : Shows (tupI ns) (n * 15 + 3) 1 :=
  Shows.tup (B := 13) (k := 0) (fun x hx => by
    obtain ⟨i, hi, rfl⟩ := List.mem_map.mp hx
    exact Shows.int (h i hi)) (by rw [List.length_map]; exact hn)
mutual
theorem eqv_self : ∀ d : PyData, d.canLay0 = true → PyData.eqv d d = true
  | .none, _ => by simp only [PyData.eqv]
  | .bool b, _ => by simp [PyData.eqv]
  | .int i, _ => by simp [PyData.eqv]
  | .str x, _ => by simp [PyData.eqv]
  | .list ds, h => by simp only [PyData.eqv]; exact eqv_selfs ds (by simpa only [PyData.canLay0] using h)
  | .tuple ds, h => by simp only [PyData.eqv]; exact eqv_selfs ds (by simpa only [PyData.canLay0] using h)
  | .dict kvs, h => by simp [PyData.canLay0] at h
theorem eqv_selfs : ∀ ds : List PyData, PyData.canLayAll0 ds = true → PyData.eqvAll ds ds = true
  | [], _ => by simp only [PyData.eqvAll]
  | d :: ds, h => by
    simp only [PyData.canLayAll0, Bool.and_eq_true] at h
    simp only [PyData.eqvAll, eqv_self d h.1, eqv_selfs ds h.2, Bool.and_self]
end
theorem eqvAll_ints : ∀ a b : List Int, PyData.eqvAll (a.map PyData.int) (b.map PyData.int) = decide (a = b)
  | [], [] => by simp [PyData.eqvAll]
  | [], _ :: _ => by simp [PyData.eqvAll]
  | _ :: _, [] => by simp [PyData.eqvAll]
  | x :: a, y :: b => by
    simp only [List.map_cons, PyData.eqvAll, eqv_int, eqvAll_ints a b]
    rw [Bool.eq_iff_iff]
    simp
theorem eqv_tupI (a b : List Int) : PyData.eqv (tupI a) (tupI b) = decide (a = b) := by
  unfold tupI
  simp only [PyData.eqv]
  exact eqvAll_ints a b
/-! ### targets, for readings -/
theorem bind3_nm (i : Nat) (d : PyData) (env : E3) : bind3 (.nm i) d env = some (set3 env i (.p d)) := by unfold bind3; rfl
theorem bind3_tup (ts : Tgs) (ds : List PyData) (env : E3) : bind3 (.tup ts) (.tuple ds) env = binds3 ts ds env := by unfold bind3; rfl
theorem binds3_nil (env : E3) : binds3 .nil [] env = some env := by unfold binds3; rfl
theorem binds3_cons (t : Tg) (r : Tgs) (d : PyData) (ds : List PyData) (env : E3) : binds3 (.cons t r) (d :: ds) env = match bind3 t d env with
    | some env1 => binds3 r ds env1
    | none => none := by
  cases h : bind3 t d env <;> simp [binds3, h]
end L3

namespace L3
open PySem PySem.Spec PyProof.Rows L2
/-! ### sum of a tuple of ints -/
section
variable {X : Cx}
theorem cr_sumT (hc : X.calm = true) : CallR X (.builtin "sum") (fun vs H Q => ∃ (a : Addr) (ns : List Int), vs = [V.ref a] ∧ SqT X.K H a (ns.map V.int) ∧ Q (.int ns.sum) H) := by
  intro pins s σ H vs us Q I r h
  obtain ⟨a, ns, rfl, hs, q⟩ := h
  obtain ⟨its, rv, hl, _⟩ := I.tuple hs
  rw [Vals.ref1 r]
  have hi : IntsAre its ns := rv.ints
  obtain ⟨xs, e⟩ := hi.allInts.items
  have hn : numsOf (intItems xs).toList = ns := by rw [← e]; exact hi.numsOf
  rw [nums_intItems] at hn
  have hl' : s.heap.IsTuple a its.toArray := hl
  rw [e] at hl'
  refine PySem.W.ktm_sumG (I.ok.hd hc) hl' fun h' tk t' hk => ?_
  rw [preSum_eq, List.take_of_length_le (by simp), hn]
  exact ⟨.int _, H, I.kept hk, ⟨_, rfl⟩, q⟩
def rSumA3 : C3 := fun ds S Q => match ds with
  | [d] => match seq3 S d with
    | some es => (match allP int? es with
      | some ns => Q (.p (.int ns.sum)) S
      | none => False)
    | none => False
  | _ => False
theorem cq_sumA (hc : X.calm = true) : CQ X (.builtin "sum") rSumA3 := callq ((cr_sum hc).or (cr_sumT hc)) fun w S ds xs H Q R r0 p0 t q => by
  unfold rSumA3 at t
  split at t
  · obtain ⟨v, rfl, p⟩ := rds1 p0
    split at t
    · rename_i es h1
      split at t
      · rename_i bs h2
        obtain ⟨a, ys, rfl, hq, ha, _⟩ := seq3_low r0 p h1
        rw [allP_int h2] at ha
        rw [dp_ints ha] at hq
        rcases hq with hq | hq
        · exact .inl ⟨a, bs, rfl, hq, q.int r0 t⟩
        · exact .inr ⟨a, bs, rfl, hq, q.int r0 t⟩
      · exact t.elim
    · exact t.elim
  · exact t.elim
end
end L3

namespace G_k56
open PySem PySem.Spec PyProof.Rows L2 L3
def topS (i : Nat) : Stmt := PySem.Challenge.pw_windowfloor_k56_shown.main.body.getD i (.Pass ⟨0, 0, 0, 0⟩)
abbrev s_one_step : Stmt := topS 1
abbrev nm_one_step : List Str := ["machine", "state", "k", "taps", "tap", "one"]
theorem sc_one_step : FnScope nm_one_step ["machine", "state"] (defScope s_one_step) := ⟨rfl, rfl, rfl, by decide +kernel, rfl, by decide +kernel, by decide +kernel⟩
abbrev s_round_of : Stmt := topS 2
abbrev nm_round_of : List Str := ["machine", "state", "found", "here"]
theorem sc_round_of : FnScope nm_round_of ["machine", "state"] (defScope s_round_of) := ⟨rfl, rfl, rfl, by decide +kernel, rfl, by decide +kernel, by decide +kernel⟩
abbrev s_shown : Stmt := topS 4
abbrev nm_shown : List Str := ["machine", "pattern", "state", "states", "number"]
theorem sc_shown : FnScope nm_shown ["machine", "pattern", "state"] (defScope s_shown) := ⟨rfl, rfl, rfl, by decide +kernel, rfl, by decide +kernel, by decide +kernel⟩
abbrev s__law_hand : Stmt := topS 6
abbrev nm__law_hand : List Str := ["_law_script", "_law_k", "_law_cell", "_law_great"]
theorem sc__law_hand : FnScope nm__law_hand ["_law_script", "_law_k"] (defScope s__law_hand) := ⟨rfl, rfl, rfl, by decide +kernel, rfl, by decide +kernel, by decide +kernel⟩
abbrev s__law_take : Stmt := topS 7
abbrev nm__law_take : List Str := ["_law_hand_here", "_law_many", "_law_digit", "_law_mixed"]
theorem sc__law_take : FnScope nm__law_take ["_law_hand_here", "_law_many"] (defScope s__law_take) := ⟨rfl, rfl, rfl, by decide +kernel, rfl, by decide +kernel, by decide +kernel⟩
abbrev s__law_pick : Stmt := topS 8
abbrev nm__law_pick : List Str := ["_law_hand_here", "_law_some"]
theorem sc__law_pick : FnScope nm__law_pick ["_law_hand_here", "_law_some"] (defScope s__law_pick) := ⟨rfl, rfl, rfl, by decide +kernel, rfl, by decide +kernel, by decide +kernel⟩
abbrev s__law_machine : Stmt := topS 9
abbrev nm__law_machine : List Str := ["_law_hand_here", "_law_k", "_law_most", "_law_many", "_law_taps", "_law_at"]
theorem sc__law_machine : FnScope nm__law_machine ["_law_hand_here"] (defScope s__law_machine) := ⟨rfl, rfl, rfl, by decide +kernel, rfl, by decide +kernel, by decide +kernel⟩
abbrev s__law_step : Stmt := topS 10
abbrev nm__law_step : List Str := ["_law_machine_here", "_law_state_here", "_law_k", "_law_taps", "_law_total", "_law_tap", "_law_one"]
theorem sc__law_step : FnScope nm__law_step ["_law_machine_here", "_law_state_here"] (defScope s__law_step) := ⟨rfl, rfl, rfl, by decide +kernel, rfl, by decide +kernel, by decide +kernel⟩
abbrev s__law_round : Stmt := topS 11
abbrev nm__law_round : List Str := ["_law_machine_here", "_law_state_here", "_law_found", "_law_here"]
theorem sc__law_round : FnScope nm__law_round ["_law_machine_here", "_law_state_here"] (defScope s__law_round) := ⟨rfl, rfl, rfl, by decide +kernel, rfl, by decide +kernel, by decide +kernel⟩
abbrev s__law_state : Stmt := topS 12
abbrev nm__law_state : List Str := ["_law_hand_here", "_law_machine_here", "_law_k", "_law_taps", "_law_way", "_law_at", "_law_tap"]
theorem sc__law_state : FnScope nm__law_state ["_law_hand_here", "_law_machine_here"] (defScope s__law_state) := ⟨rfl, rfl, rfl, by decide +kernel, rfl, by decide +kernel, by decide +kernel⟩
abbrev s__law_pattern : Stmt := topS 13
abbrev nm__law_pattern : List Str := ["_law_hand_here", "_law_most", "_law_found", "_law_sizes", "_law_at", "_law_way", "_law_near", "_law_far", "_law_some"]
theorem sc__law_pattern : FnScope nm__law_pattern ["_law_hand_here", "_law_most"] (defScope s__law_pattern) := ⟨rfl, rfl, rfl, by decide +kernel, rfl, by decide +kernel, by decide +kernel⟩
abbrev s__law_sum : Stmt := topS 14
abbrev nm__law_sum : List Str := ["_law_k", "_law_one", "_law_other", "_law_x", "_law_y"]
theorem sc__law_sum : FnScope nm__law_sum ["_law_k", "_law_one", "_law_other"] (defScope s__law_sum) := ⟨rfl, rfl, rfl, by decide +kernel, rfl, by decide +kernel, by decide +kernel⟩
abbrev s_law : Stmt := topS 15
abbrev nm_law : List Str := ["_law_script", "_law_at", "_law_hand_here", "_law_machine_here", "_law_last", "_law_turn", "_law_state_here", "_law_pattern_here", "_law_states", "_law_due", "_law_before", "_law_both", "_law_number"]
theorem sc_law : FnScope nm_law ["_law_script"] (defScope s_law) := ⟨rfl, rfl, rfl, by decide +kernel, rfl, by decide +kernel, by decide +kernel⟩
/-- what stands behind the top -/
structure Txt (K : PySem.W.Frag) (mg : Str → Option Value) : Prop where
  b_int : mg "int" = none
  b_len : mg "len" = none
  b_max : mg "max" = none
  b_min : mg "min" = none
  b_range : mg "range" = none
  b_repr : mg "repr" = none
  b_sum : mg "sum" = none
  b_tuple : mg "tuple" = none
  b_zip : mg "zip" = none
  f_one_step : ∃ f fd, Fun K "one_step" "one_step" s_one_step f fd ∧ mg "one_step" = some (.ref f) ∧ Binds K fd ["machine", "state"] []
  f_round_of : ∃ f fd, Fun K "round_of" "round_of" s_round_of f fd ∧ mg "round_of" = some (.ref f) ∧ Binds K fd ["machine", "state"] []
  f_shown : ∃ f fd, Fun K "shown" "shown" s_shown f fd ∧ mg "shown" = some (.ref f) ∧ Binds K fd ["machine", "pattern", "state"] []
  f__law_hand : ∃ f fd, Fun K "_law_hand" "_law_hand" s__law_hand f fd ∧ mg "_law_hand" = some (.ref f) ∧ Binds K fd ["_law_script", "_law_k"] []
  f__law_take : ∃ f fd, Fun K "_law_take" "_law_take" s__law_take f fd ∧ mg "_law_take" = some (.ref f) ∧ Binds K fd ["_law_hand_here", "_law_many"] []
  f__law_pick : ∃ f fd, Fun K "_law_pick" "_law_pick" s__law_pick f fd ∧ mg "_law_pick" = some (.ref f) ∧ Binds K fd ["_law_hand_here", "_law_some"] []
  f__law_machine : ∃ f fd, Fun K "_law_machine" "_law_machine" s__law_machine f fd ∧ mg "_law_machine" = some (.ref f) ∧ Binds K fd ["_law_hand_here"] []
  f__law_step : ∃ f fd, Fun K "_law_step" "_law_step" s__law_step f fd ∧ mg "_law_step" = some (.ref f) ∧ Binds K fd ["_law_machine_here", "_law_state_here"] []
  f__law_round : ∃ f fd, Fun K "_law_round" "_law_round" s__law_round f fd ∧ mg "_law_round" = some (.ref f) ∧ Binds K fd ["_law_machine_here", "_law_state_here"] []
  f__law_state : ∃ f fd, Fun K "_law_state" "_law_state" s__law_state f fd ∧ mg "_law_state" = some (.ref f) ∧ Binds K fd ["_law_hand_here", "_law_machine_here"] []
  f__law_pattern : ∃ f fd, Fun K "_law_pattern" "_law_pattern" s__law_pattern f fd ∧ mg "_law_pattern" = some (.ref f) ∧ Binds K fd ["_law_hand_here", "_law_most"] []
  f__law_sum : ∃ f fd, Fun K "_law_sum" "_law_sum" s__law_sum f fd ∧ mg "_law_sum" = some (.ref f) ∧ Binds K fd ["_law_k", "_law_one", "_law_other"] []
  f_law : ∃ f fd, Fun K "law" "law" s_law f fd ∧ mg "law" = some (.ref f) ∧ Binds K fd ["_law_script"] []
local macro_rules | `(tactic| walk_at "sd") => `(tactic| first | assumption | decide +kernel | omega | exact mulOk_ite _ _ | (refine Or.inl ⟨?_, ?_⟩ <;> omega) | (refine Or.inr (Or.inl ⟨?_, ?_⟩) <;> omega) | (refine And.intro ?_ (Or.inl ?_) <;> omega))
local macro_rules | `(tactic| walk_at "cj") => `(tactic| repeat (refine And.intro ?_ ?_; walk_at "sd"))
local macro_rules | `(tactic| walk_at "rd") => `(tactic| try simp only [tSeq3, tNext3, tDrop3, tRet3, tRetN3, tIfS3, tSet3, tAsgT3, tPr3, tWhile3, tFor3, tLc3, tRng1, tRng2, tSeqI3, tYes3, wipe3, wipe3.clr, tPut3, tApp3, tPop3, tVar3, tC3, tOp3, tUn3, tNil3, tCons3, tCB3, tTest3, tChain3, tAnd3, tOr3, tNot3, tAndV3, tOrV3, tNotV3, tIf3, tTup3, tPure, tOwn, tLst3, pures, at3, set3, bind3_nm, bind3_tup, binds3_nil, binds3_cons, rAdd3, rSub3, rMulT3, rMul3, rMod3, rDiv3, rPow3, rLt3, rLe3, rGt3, rGe3, rEqS3, rNeS3, rIs3, rIsNot3, rInt, rInt0, isNon, rNeg3, rIntOf3, rInt2, rReprD3, rLen3, rIx3, seq3, lst3, own3, atI_lit, ixN_lit, atI_neg1, List.getElem?_cons_zero, List.getElem?_cons_succ, List.set_cons_zero, List.set_cons_succ, List.getLast?, List.dropLast, List.set_set, tIsi3, tSl3, tSlN3, tPart3, tNoPart3, tZipI3, tEnumerateI3, tReversedI3, tTupRev3, tLstOf3, rBls3, rInts3, rSumA3, rAbs3, rTupOf3, isTy, decide_eq_true_eq, Bool.not_eq_true', env0, List.map, List.length_cons, List.length_nil, List.replicate, List.cons_append, List.nil_append, Nat.sub_self, Nat.reduceAdd, Nat.reduceSub, eqv_int, shaped_int, shaped_none, eqv_ni, eqv_in, eqv_str_self, shaped_ofStr, and_self, true_and, beq_iff_eq, bne_iff_ne, if_true, if_false, Bool.false_eq_true, List.length_set, Nat.reduceLT, Int.reduceLT, Int.reduceLE, Int.reduceToNat, Int.reducePow, Int.reduceMul, Int.reduceMod, Int.reduceAdd, Int.reduceSub, Int.reduceNeg, sizeLine_eq, Nat.reduceLeDiff, String.reduceBEq, String.reduceEq, beq_self_eq_true, beq_eq_false_iff_ne, ne_eq, decide_eq_false_iff_not, not_true_eq_false, not_false_eq_true, Bool.true_eq_false, Bool.or_true, Bool.or_false, reduceIte, ite_true, ite_false, decide_true, decide_false, Bool.not_true, Bool.not_false, Bool.and_true, Bool.true_and, List.length_map])
/-! ### machines: the plain part -/
def dotL (taps st : List Int) : Int := ((taps.zip st).map fun p => p.1 * p.2).sum
def stepL (k : Int) (taps st : List Int) : List Int := st.tail ++ [dotL taps st % k]
def itr (k : Int) (taps : List Int) : Nat → List Int → List Int
  | 0, s => s
  | n + 1, s => stepL k taps (itr k taps n s)
structure Mach (k : Int) (taps : List Int) : Prop where
  kd : (k = 2 ∧ taps.length ≤ 9) ∨ (k = 3 ∧ taps.length ≤ 5) ∨ (k = 5 ∧ taps.length ≤ 3) ∨ (k = 7 ∧ taps.length ≤ 3)
  ne : ∃ t r, taps = t :: r ∧ 0 < t
  ok : ∀ t ∈ taps, 0 ≤ t ∧ t < k
structure Sta (k : Int) (taps st : List Int) : Prop where
  len : st.length = taps.length
  ok : ∀ t ∈ st, 0 ≤ t ∧ t < k
theorem Mach.pos {k : Int} {taps : List Int} (M : Mach k taps) : 0 < k ∧ k ≤ 7 ∧ 1 ≤ taps.length ∧ taps.length ≤ 9 := by
  obtain ⟨t, r, e, _⟩ := M.ne
  have : taps.length = r.length + 1 := by rw [e]; rfl
  have := M.kd
  omega
theorem Sta.step {k : Int} {taps st : List Int} (M : Mach k taps) (h : Sta k taps st) : Sta k taps (stepL k taps st) := by
  have hp := M.pos
  unfold stepL
  refine ⟨?_, fun t ht => ?_⟩
  · rw [List.length_append, List.length_tail, List.length_singleton, h.len]
    omega
  · rcases List.mem_append.mp ht with ht | ht
    · exact h.ok t (List.mem_of_mem_tail ht)
    · rw [List.mem_singleton] at ht
      subst ht
      exact ⟨Int.emod_nonneg _ (by omega), Int.emod_lt_of_pos _ hp.1⟩
theorem Sta.itr {k : Int} {taps st : List Int} (M : Mach k taps) (h : Sta k taps st) : ∀ n, Sta k taps (itr k taps n st)
  | 0 => h
  | n + 1 => (Sta.itr M h n).step M
theorem itr_add (k : Int) (taps : List Int) (a : Nat) (s : List Int) : ∀ b, itr k taps (b + a) s = itr k taps b (itr k taps a s)
  | 0 => by rw [Nat.zero_add]; rfl
  | b + 1 => by
    rw [Nat.succ_add]
    show stepL k taps (itr k taps (b + a) s) = stepL k taps (itr k taps b (itr k taps a s))
    rw [itr_add k taps a s b]
theorem prime_no {k t d : Int} (hk : k = 2 ∨ k = 3 ∨ k = 5 ∨ k = 7) (t0 : 0 < t) (t1 : t < k) (h : (t * d) % k = 0) : d % k = 0 := by
  rw [Int.mul_emod] at h
  have d0 : 0 ≤ d % k := Int.emod_nonneg _ (by omega)
  have d1 : d % k < k := Int.emod_lt_of_pos _ (by omega)
  generalize d % k = e at *
  rw [Int.emod_eq_of_lt (Int.le_of_lt t0) t1] at h
  rcases hk with rfl | rfl | rfl | rfl
  · have ht : t = 1 := by omega
    subst ht
    omega
  · have ht : t = 1 ∨ t = 2 := by omega
    rcases ht with rfl | rfl <;> omega
  · have ht : t = 1 ∨ t = 2 ∨ t = 3 ∨ t = 4 := by omega
    rcases ht with rfl | rfl | rfl | rfl <;> omega
  · have ht : t = 1 ∨ t = 2 ∨ t = 3 ∨ t = 4 ∨ t = 5 ∨ t = 6 := by omega
    rcases ht with rfl | rfl | rfl | rfl | rfl | rfl <;> omega
theorem step_inj {k : Int} {taps s s' : List Int} (M : Mach k taps) (h : Sta k taps s) (h' : Sta k taps s') (e : stepL k taps s = stepL k taps s') : s = s' := by
  obtain ⟨t, r, et, ht⟩ := M.ne
  have hp := M.pos
  cases s with
  | nil =>
    have := h.len
    rw [et] at this
    cases this
  | cons x xs =>
    cases s' with
    | nil =>
      have := h'.len
      rw [et] at this
      cases this
    | cons y ys =>
      unfold stepL at e
      simp only [List.tail_cons] at e
      have hl : xs.length = ys.length := by
        have a := h.len
        have b := h'.len
        simp only [List.length_cons] at a b
        omega
      obtain ⟨e1, e2⟩ := List.append_inj e hl
      subst e1
      have e3 : dotL taps (x :: xs) % k = dotL taps (y :: xs) % k := by simpa using e2
      rw [et] at e3
      simp only [dotL, List.zip_cons_cons, List.map_cons, List.sum_cons] at e3
      have e4 : (t * (x - y)) % k = 0 := by
        have := Int.emod_eq_emod_iff_emod_sub_eq_zero.mp e3
        have e5 : t * x + (List.map (fun p : Int × Int => p.1 * p.2) (r.zip xs)).sum - (t * y + (List.map (fun p : Int × Int => p.1 * p.2) (r.zip xs)).sum) = t * (x - y) := by
          rw [Int.mul_sub]
          omega
        rw [e5] at this
        exact this
      have t1 : t < k := (M.ok t (by rw [et]; exact List.mem_cons_self)).2
      have hk : k = 2 ∨ k = 3 ∨ k = 5 ∨ k = 7 := by
        have := M.kd
        omega
      have e6 := prime_no hk ht t1 e4
      have x0 := h.ok x List.mem_cons_self
      have y0 := h'.ok y List.mem_cons_self
      have : x = y := by
        have a : x % k = y % k := Int.emod_eq_emod_iff_emod_sub_eq_zero.mpr e6
        rw [Int.emod_eq_of_lt x0.1 x0.2, Int.emod_eq_of_lt y0.1 y0.2] at a
        exact a
      rw [this]
theorem itr_inj {k : Int} {taps s s' : List Int} (M : Mach k taps) (h : Sta k taps s) (h' : Sta k taps s') : ∀ n, itr k taps n s = itr k taps n s' → s = s'
  | 0, e => e
  | n + 1, e => itr_inj M h h' n (step_inj M (h.itr M n) (h'.itr M n) e)
theorem pigeon : ∀ (n : Nat) (f : Nat → Nat), (∀ i, i ≤ n → f i < n) → ∃ i j, i < j ∧ j ≤ n ∧ f i = f j
  | 0, f, h => absurd (h 0 (Nat.le_refl _)) (Nat.not_lt_zero _)
  | n + 1, f, h => by
    by_cases hv : ∃ i, i ≤ n ∧ f i = f (n + 1)
    · obtain ⟨i, hi, e⟩ := hv
      exact ⟨i, n + 1, by omega, Nat.le_refl _, e⟩
    · have hv' : ∀ i, i ≤ n → f i ≠ f (n + 1) := fun i hi e => hv ⟨i, hi, e⟩
      obtain ⟨i, j, h1, h2, h3⟩ := pigeon n (fun i => if f i = n then f (n + 1) else f i) fun i hi => by
        have a := h i (by omega)
        have b := h (n + 1) (Nat.le_refl _)
        have c := hv' i hi
        show (if f i = n then f (n + 1) else f i) < n
        split <;> omega
      refine ⟨i, j, h1, by omega, ?_⟩
      have c1 := hv' i (by omega)
      have c2 := hv' j h2
      have h3' : (if f i = n then f (n + 1) else f i) = (if f j = n then f (n + 1) else f j) := h3
      split at h3' <;> split at h3' <;> omega
/-- a state as a number -/
def code (k : Nat) : List Int → Nat
  | [] => 0
  | x :: xs => x.toNat + k * code k xs
theorem code_lt {k : Int} (hk : 0 < k) : ∀ {s : List Int}, (∀ t ∈ s, 0 ≤ t ∧ t < k) → code k.toNat s < k.toNat ^ s.length
  | [], _ => by simp [code]
  | x :: xs, h => by
    have ih := code_lt hk (s := xs) fun t ht => h t (List.mem_cons_of_mem _ ht)
    have hx := h x List.mem_cons_self
    unfold code
    rw [List.length_cons, Nat.pow_succ]
    have : k.toNat * (code k.toNat xs + 1) ≤ k.toNat * k.toNat ^ xs.length := Nat.mul_le_mul_left _ ih
    rw [Nat.mul_add, Nat.mul_comm k.toNat (k.toNat ^ xs.length)] at this
    omega
theorem code_inj {k : Int} (hk : 0 < k) : ∀ {s s' : List Int}, s.length = s'.length → (∀ t ∈ s, 0 ≤ t ∧ t < k) → (∀ t ∈ s', 0 ≤ t ∧ t < k) → code k.toNat s = code k.toNat s' → s = s'
  | [], [], _, _, _, _ => rfl
  | x :: xs, y :: ys, hl, h, h', e => by
    have hx := h x List.mem_cons_self
    have hy := h' y List.mem_cons_self
    unfold code at e
    have k0 : 0 < k.toNat := by omega
    have m1 : (x.toNat + k.toNat * code k.toNat xs) % k.toNat = x.toNat := by rw [Nat.add_mul_mod_self_left]; exact Nat.mod_eq_of_lt (by omega)
    have m2 : (y.toNat + k.toNat * code k.toNat ys) % k.toNat = y.toNat := by rw [Nat.add_mul_mod_self_left]; exact Nat.mod_eq_of_lt (by omega)
    have e1 : x.toNat = y.toNat := by rw [← m1, ← m2, e]
    have e2 : k.toNat * code k.toNat xs = k.toNat * code k.toNat ys := by omega
    have e3 := Nat.eq_of_mul_eq_mul_left k0 e2
    have hxy : x = y := by omega
    subst hxy
    rw [code_inj hk (by simpa using hl) (fun t ht => h t (List.mem_cons_of_mem _ ht)) (fun t ht => h' t (List.mem_cons_of_mem _ ht)) e3]
  | [], _ :: _, hl, _, _, _ => by cases hl
  | _ :: _, [], hl, _, _, _ => by cases hl
theorem Mach.few {k : Int} {taps : List Int} (M : Mach k taps) : k.toNat ^ taps.length ≤ 512 := by
  rcases M.kd with ⟨rfl, h⟩ | ⟨rfl, h⟩ | ⟨rfl, h⟩ | ⟨rfl, h⟩
  · exact Nat.le_trans (Nat.pow_le_pow_right (by decide) h) (by decide)
  · exact Nat.le_trans (Nat.pow_le_pow_right (by decide) h) (by decide)
  · exact Nat.le_trans (Nat.pow_le_pow_right (by decide) h) (by decide)
  · exact Nat.le_trans (Nat.pow_le_pow_right (by decide) h) (by decide)
/-- p is the first number of steps that leads back -/
structure Per (k : Int) (taps st : List Int) (p : Nat) : Prop where
  pos : 0 < p
  few : p ≤ 512
  back : itr k taps p st = st
  first : ∀ j, 0 < j → j < p → itr k taps j st ≠ st
theorem least (P : Nat → Prop) (n : Nat) (h : P n) : ∃ m, m ≤ n ∧ P m ∧ ∀ j, j < m → ¬ P j := by
  induction n using Nat.strongRecOn with
  | _ n ih =>
    by_cases hq : ∃ j, j < n ∧ P j
    · obtain ⟨j, hj, hp⟩ := hq
      obtain ⟨m, h1, h2, h3⟩ := ih j hj hp
      exact ⟨m, by omega, h2, h3⟩
    · exact ⟨n, Nat.le_refl _, h, fun j hj hp => hq ⟨j, hj, hp⟩⟩
theorem per_ex {k : Int} {taps st : List Int} (M : Mach k taps) (h : Sta k taps st) : ∃ p, Per k taps st p := by
  have hp := M.pos
  have bound : ∀ i, i ≤ k.toNat ^ taps.length → code k.toNat (itr k taps i st) < k.toNat ^ taps.length := fun i _ => by
    have s := h.itr M i
    have := code_lt hp.1 s.ok
    rw [s.len] at this
    exact this
  obtain ⟨i, j, hij, hj, e⟩ := pigeon _ (fun i => code k.toNat (itr k taps i st)) bound
  have si := h.itr M i
  have sj := h.itr M j
  have e1 : itr k taps i st = itr k taps j st := code_inj hp.1 (si.len.trans sj.len.symm) si.ok sj.ok e
  have e2 : itr k taps (j - i) st = st := by
    refine (itr_inj M h (h.itr M (j - i)) i ?_).symm
    rw [← itr_add, show i + (j - i) = j by omega]
    exact e1
  obtain ⟨p, p1, p2, p3⟩ := least (fun n => 0 < n ∧ itr k taps n st = st) (j - i) ⟨by omega, e2⟩
  have := M.few
  exact ⟨p, p2.1, by omega, p2.2, fun q q0 q1 q2 => p3 q q1 ⟨q0, q2⟩⟩
theorem Per.turn {k : Int} {taps st : List Int} {p : Nat} (M : Mach k taps) (h : Sta k taps st) (P : Per k taps st p) (s : Nat) : Per k taps (itr k taps s st) p := by
  refine ⟨P.pos, P.few, ?_, fun j j0 j1 e => P.first j j0 j1 ?_⟩
  · rw [← itr_add, Nat.add_comm, itr_add, P.back]
  · refine itr_inj M (h.itr M j) h s ?_
    rw [← itr_add, Nat.add_comm, itr_add]
    exact e
theorem Per.mod {k : Int} {taps st : List Int} {p : Nat} (P : Per k taps st p) (n : Nat) : itr k taps (n % p) st = itr k taps n st := by
  induction n using Nat.strongRecOn with
  | _ n ih =>
    by_cases hn : n < p
    · rw [Nat.mod_eq_of_lt hn]
    · have hp := P.pos
      rw [Nat.mod_eq_sub_mod (by omega), ih (n - p) (by omega)]
      have e : itr k taps n st = itr k taps ((n - p) + p) st := by rw [Nat.sub_add_cancel (by omega)]
      rw [e, itr_add, P.back]
def hdI (s : List Int) : Int := s.headD 0
def rowL (k : Int) (taps : List Int) (p : Nat) (st : List Int) : List Int := (List.range p).map fun j => hdI (itr k taps j st)
theorem rowL_len (k : Int) (taps : List Int) (p : Nat) (st : List Int) : (rowL k taps p st).length = p := by
  unfold rowL
  rw [List.length_map, List.length_range]
theorem rowL_get {k : Int} {taps st : List Int} {p j : Nat} (h : j < p) : (rowL k taps p st)[j]? = some (hdI (itr k taps j st)) := by
  unfold rowL
  rw [List.getElem?_map, List.getElem?_range h]
  rfl
theorem rowL_turn {k : Int} {taps st : List Int} {p s : Nat} (P : Per k taps st p) (hs : s < p) : rowL k taps p (itr k taps s st) = (rowL k taps p st).drop s ++ (rowL k taps p st).take s := by
  refine List.ext_getElem? fun j => ?_
  by_cases hj : j < p
  · rw [rowL_get hj, ← itr_add]
    by_cases h1 : j < p - s
    · rw [List.getElem?_append_left (by rw [List.length_drop, rowL_len]; exact h1), List.getElem?_drop, rowL_get (by omega), Nat.add_comm]
    · rw [List.getElem?_append_right (by rw [List.length_drop, rowL_len]; omega), List.length_drop, rowL_len, List.getElem?_take_of_lt (by omega), rowL_get (by omega)]
      have e : j + s = (j - (p - s)) + p := by omega
      rw [e, itr_add, P.back]
  · rw [List.getElem?_eq_none_iff.mpr (by rw [rowL_len]; omega), List.getElem?_eq_none_iff.mpr]
    rw [List.length_append, List.length_drop, List.length_take, rowL_len]
    omega
theorem itr_get {k : Int} {taps st : List Int} (M : Mach k taps) (h : Sta k taps st) : ∀ (n j : Nat), n + j < st.length → (itr k taps n st)[j]? = st[n + j]?
  | 0, j, _ => by rw [Nat.zero_add]; rfl
  | n + 1, j, hj => by
    have s := h.itr M n
    show (stepL k taps (itr k taps n st))[j]? = _
    unfold stepL
    have hl : (itr k taps n st).tail.length = st.length - 1 := by rw [List.length_tail, s.len, h.len]
    rw [List.getElem?_append_left (by omega), List.getElem?_tail, itr_get M h n (j + 1) (by omega)]
    congr 1
    omega
theorem hdI_of {s : List Int} {x : Int} (h : s[0]? = some x) : hdI s = x := by
  cases s with
  | nil => cases h
  | cons y ys =>
    simp at h
    exact h
theorem hdI_get {s : List Int} (h : s ≠ []) : s[0]? = some (hdI s) := by
  cases s with
  | nil => exact absurd rfl h
  | cons y ys => rfl
theorem Sta.ne {k : Int} {taps st : List Int} (M : Mach k taps) (h : Sta k taps st) : st ≠ [] := fun z => by
  have := M.pos
  have := h.len
  rw [z] at this
  simp at this
  omega
theorem hdI_mem {s : List Int} (h : s ≠ []) : hdI s ∈ s := by
  cases s with
  | nil => exact absurd rfl h
  | cons y ys => exact List.mem_cons_self
theorem rowL_ok {k : Int} {taps st : List Int} (M : Mach k taps) (h : Sta k taps st) {p : Nat} : ∀ x ∈ rowL k taps p st, 0 ≤ x ∧ x < k := fun x hx => by
  unfold rowL at hx
  obtain ⟨j, _, rfl⟩ := List.mem_map.mp hx
  have s := h.itr M j
  exact s.ok _ (hdI_mem (s.ne M))
/-- a machine, told -/
def mach (k : Int) (taps : List Int) : PyData := .tuple [.int k, tupI taps]
theorem take_one {α : Type} {xs : List α} {i : Nat} {x : α} (h : xs[i]? = some x) : xs.take (i + 1) = xs.take i ++ [x] := by
  rw [List.take_add_one, h]
  rfl
theorem cut3_tail {α : Type} (xs : List α) : cut3 xs (some 1) none = xs.tail := by
  unfold cut3 HT.sIx
  cases xs with
  | nil => rfl
  | cons x xs =>
    have e : min (1 : Int).toNat (x :: xs).length = 1 := by simp
    simp only [show ¬ ((1 : Int) < 0) by decide, if_false, e]
    simp
theorem cut3_drop {α : Type} (xs : List α) (s : Nat) : cut3 xs (some (s : Int)) none = xs.drop s := by
  unfold cut3
  rw [HT.sIx_nat, HT.sIx_none]
  by_cases h : s ≤ xs.length
  · rw [Nat.min_eq_left h]
    exact List.take_of_length_le (by rw [List.length_drop]; exact Nat.le_refl _)
  · rw [Nat.min_eq_right (by omega), List.drop_of_length_le (by omega : xs.length ≤ s), List.drop_of_length_le (Nat.le_refl _)]
    simp
theorem cut3_take {α : Type} (xs : List α) (s : Nat) : cut3 xs none (some (s : Int)) = xs.take s := by
  unfold cut3
  rw [HT.sIx_nat, HT.sIx_none, List.drop_zero, Nat.sub_zero]
  by_cases h : s ≤ xs.length
  · rw [Nat.min_eq_left h]
  · rw [Nat.min_eq_right (by omega), List.take_of_length_le (by omega : xs.length ≤ s), List.take_length]
theorem tail_ints (xs : List Int) : (xs.map PyData.int).tail = xs.tail.map PyData.int := by cases xs <;> rfl
/-- a hand whose count is not above b -/
def HdB (S : S3) (n : Nat) (b : Int) : Prop := ∃ g x c : Int, S[n]? = some (some (.lst [.int g, .int x, .int c])) ∧ 0 ≤ c ∧ c ≤ b
theorem HdB.hd {S : S3} {n : Nat} {b : Int} (h : HdB S n b) : Hd S n := let ⟨g, x, c, e, _⟩ := h; ⟨g, x, c, e⟩
theorem HdB.le {S : S3} {n : Nat} {b b' : Int} (h : HdB S n b) (hb : b ≤ b') : HdB S n b' := let ⟨g, x, c, e, h0, h1⟩ := h; ⟨g, x, c, e, h0, by omega⟩
theorem HdTo.refl {S : S3} {n : Nat} (h : Hd S n) : HdTo n S S := by
  obtain ⟨g, x, c, e⟩ := h
  obtain ⟨hl, e'⟩ := List.getElem?_eq_some_iff.mp e
  exact ⟨g, x, c, by rw [← e', List.set_getElem_self]⟩
theorem rep3_single {α : Type} (x : α) (k : Int) : rep3 [x] k = List.replicate k.toNat x := by
  unfold rep3
  induction k.toNat with
  | zero => rfl
  | succ n ih => rw [List.replicate_succ, List.flatten_cons, ih, List.replicate_succ]; rfl
theorem atI_lt {α : Type} {xs : List α} {d : Int} (h0 : 0 ≤ d) (h1 : d < (xs.length : Int)) : ∃ (j : Nat) (x : α), d = (j : Int) ∧ j < xs.length ∧ xs[j]? = some x ∧ atI xs d = some x := by
  obtain ⟨j, rfl⟩ := Int.eq_ofNat_of_zero_le h0
  have hj : j < xs.length := by omega
  exact ⟨j, xs[j], rfl, hj, List.getElem?_eq_getElem hj, atI_nat (List.getElem?_eq_getElem hj)⟩
theorem sta_shows {k : Int} {taps st : List Int} (M : Mach k taps) (h : Sta k taps st) : Shows (tupI st) 138 1 := shows_tupI (n := 9) (fun x hx => by
  have := h.ok x hx
  have := M.pos
  omega) (by rw [h.len]; exact M.pos.2.2.2)
theorem row_shows {k : Int} {taps st : List Int} {p : Nat} (M : Mach k taps) (h : Sta k taps st) (P : Per k taps st p) : Shows (tupI (rowL k taps p st)) 7683 1 := shows_tupI (n := 512) (fun x hx => by
  have := rowL_ok M h x hx
  have := M.pos
  omega) (by rw [rowL_len]; exact P.few)
theorem mach_shows {k : Int} {taps : List Int} (M : Mach k taps) : Shows (mach k taps) 300 2 := by
  have hmp := M.pos
  have h : Shows (.tuple [.int k, tupI taps]) (2 * (138 + 2) + 3) (1 + 1) := Shows.tup (B := 138) (k := 1) (fun x hx => by
    simp only [List.mem_cons, List.not_mem_nil, or_false] at hx
    rcases hx with rfl | rfl
    · exact (Shows.int (by omega)).le (by decide) (by decide)
    · exact shows_tupI (n := 9) (fun x hx => by
        have := M.ok x hx
        omega) hmp.2.2.2) (Nat.le_refl 2)
  exact h.le (by decide) (by decide)
theorem both_shows {k : Int} {taps st : List Int} (M : Mach k taps) (h : Sta k taps st) : Shows (.list [mach k taps, tupI st]) (2 * (300 + 2) + 3) (2 + 1) :=
  Shows.lst (fun x hx => by
    simp only [List.mem_cons, List.not_mem_nil, or_false] at hx
    rcases hx with rfl | rfl
    · exact mach_shows M
    · exact (sta_shows M h).le (by decide) (by decide)) (Nat.le_refl 2)
def sumL (k : Int) (a b : List Int) : List Int := (a.zip b).map fun p => (p.1 + p.2) % k
theorem sumL_len (k : Int) {a b : List Int} (h : a.length = b.length) : (sumL k a b).length = a.length := by
  unfold sumL
  rw [List.length_map, List.length_zip]
  omega
theorem sumL_sta {k : Int} {taps a b : List Int} (M : Mach k taps) (h : Sta k taps a) (h' : Sta k taps b) : Sta k taps (sumL k a b) := by
  have hp := M.pos
  refine ⟨(sumL_len k (h.len.trans h'.len.symm)).trans h.len, fun t ht => ?_⟩
  unfold sumL at ht
  obtain ⟨p, _, rfl⟩ := List.mem_map.mp ht
  exact ⟨Int.emod_nonneg _ (by omega), Int.emod_lt_of_pos _ hp.1⟩
theorem dot_sum {k : Int} : ∀ (t a b : List Int), a.length = b.length → dotL t (sumL k a b) % k = (dotL t a + dotL t b) % k
  | [], a, b, _ => by simp [dotL]
  | x :: t, [], [], _ => by simp [dotL, sumL]
  | x :: t, y :: a, z :: b, h => by
    have ih := dot_sum (k := k) t a b (by simpa using h)
    simp only [dotL, sumL, List.zip_cons_cons, List.map_cons, List.sum_cons] at ih ⊢
    generalize (List.map (fun p : Int × Int => p.1 * p.2) (t.zip (List.map (fun p : Int × Int => (p.1 + p.2) % k) (a.zip b)))).sum = u at *
    generalize (List.map (fun p : Int × Int => p.1 * p.2) (t.zip a)).sum = v at *
    generalize (List.map (fun p : Int × Int => p.1 * p.2) (t.zip b)).sum = w at *
    have e1 : (x * ((y + z) % k) + u) % k = (x * (y + z) + u) % k := by
      rw [Int.add_emod, Int.mul_emod, Int.emod_emod, ← Int.mul_emod, ← Int.add_emod]
    have e2 : x * (y + z) + u = x * y + x * z + u := by rw [Int.mul_add]
    have e3 : x * y + v + (x * z + w) = x * y + x * z + (v + w) := by omega
    rw [e1, e2, e3, Int.add_emod, ih, ← Int.add_emod]
  | _ :: _, [], _ :: _, h => by cases h
  | _ :: _, _ :: _, [], h => by cases h
theorem sumL_step {k : Int} {taps a b : List Int} (M : Mach k taps) (h : Sta k taps a) (h' : Sta k taps b) : stepL k taps (sumL k a b) = sumL k (stepL k taps a) (stepL k taps b) := by
  have hl : a.length = b.length := h.len.trans h'.len.symm
  unfold stepL
  have e : dotL taps (sumL k a b) % k = (dotL taps a % k + dotL taps b % k) % k := by rw [dot_sum taps a b hl, Int.add_emod]
  rw [e]
  unfold sumL
  have hz : (a.tail ++ [dotL taps a % k]).zip (b.tail ++ [dotL taps b % k]) = a.tail.zip b.tail ++ [(dotL taps a % k, dotL taps b % k)] := by
    rw [List.zip_append (by rw [List.length_tail, List.length_tail, hl])]
    rfl
  rw [hz, List.map_append]
  congr 1
  cases a with
  | nil => simp
  | cons x a => cases b with
    | nil => simp
    | cons y b => simp
theorem sumL_itr {k : Int} {taps a b : List Int} (M : Mach k taps) (h : Sta k taps a) (h' : Sta k taps b) : ∀ n, itr k taps n (sumL k a b) = sumL k (itr k taps n a) (itr k taps n b)
  | 0 => rfl
  | n + 1 => by
    show stepL k taps (itr k taps n (sumL k a b)) = _
    rw [sumL_itr M h h' n, sumL_step M (h.itr M n) (h'.itr M n)]
    rfl
theorem hdI_sum {k : Int} {a b : List Int} (ha : a ≠ []) (hb : b ≠ []) : hdI (sumL k a b) = (hdI a + hdI b) % k := by
  cases a with
  | nil => exact absurd rfl ha
  | cons x a => cases b with
    | nil => exact absurd rfl hb
    | cons y b => rfl
/-- a pattern as a machine shows it from st -/
def seen (k : Int) (taps : List Int) (pat : List Nat) (st : List Int) : List Int := pat.map fun n => hdI (itr k taps n st)
theorem seen_len (k : Int) (taps : List Int) (pat : List Nat) (st : List Int) : (seen k taps pat st).length = pat.length := by
  unfold seen
  rw [List.length_map]
theorem seen_sum {k : Int} {taps a b : List Int} (M : Mach k taps) (h : Sta k taps a) (h' : Sta k taps b) : ∀ pat : List Nat, seen k taps pat (sumL k a b) = sumL k (seen k taps pat a) (seen k taps pat b)
  | [] => rfl
  | n :: pat => by
    have ih := seen_sum M h h' pat
    unfold seen sumL at ih ⊢
    simp only [List.map_cons, List.zip_cons_cons]
    rw [← ih]
    congr 1
    have := sumL_itr M h h' n
    unfold sumL at this
    rw [this]
    exact hdI_sum ((h.itr M n).ne M) ((h'.itr M n).ne M)
theorem seen_ok {k : Int} {taps st : List Int} (M : Mach k taps) (h : Sta k taps st) {pat : List Nat} : ∀ x ∈ seen k taps pat st, 0 ≤ x ∧ x < k := fun x hx => by
  unfold seen at hx
  obtain ⟨n, _, rfl⟩ := List.mem_map.mp hx
  have s := h.itr M n
  exact s.ok _ (hdI_mem (s.ne M))
theorem sumL_ok {k : Int} (hk : 0 < k) (a b : List Int) : ∀ x ∈ sumL k a b, 0 ≤ x ∧ x < k := fun x hx => by
  unfold sumL at hx
  obtain ⟨p, _, rfl⟩ := List.mem_map.mp hx
  exact ⟨Int.emod_nonneg _ (by omega), Int.emod_lt_of_pos _ hk⟩
def patI (pat : List Nat) : List Int := pat.map fun (n : Nat) => (n : Int)
theorem seen_shows {k : Int} {taps st : List Int} {pat : List Nat} (M : Mach k taps) (h : Sta k taps st) (hl : pat.length ≤ 16) : Shows (tupI (seen k taps pat st)) 300 1 := (shows_tupI (n := 16) (fun x hx => by
  have := seen_ok M h x hx
  have := M.pos
  omega) (by rw [seen_len]; exact hl)).le (by decide) (by decide)
theorem pat_shows {pat : List Nat} (h : ∀ n ∈ pat, n ≤ 1000000) (hl : pat.length ≤ 16) : Shows (tupI (patI pat)) 300 1 := (shows_tupI (n := 16) (fun x hx => by
  unfold patI at hx
  obtain ⟨n, hn, rfl⟩ := List.mem_map.mp hx
  have := h n hn
  omega) (by unfold patI; rw [List.length_map]; exact hl)).le (by decide) (by decide)
theorem three_shows {k : Int} {taps st : List Int} {pat : List Nat} (M : Mach k taps) (h : Sta k taps st) (hn : ∀ n ∈ pat, n ≤ 1000000) (hl : pat.length ≤ 16) : Shows (.list [mach k taps, tupI (patI pat), tupI st]) (3 * (300 + 2) + 3) (2 + 1) :=
  Shows.lst (fun x hx => by
    simp only [List.mem_cons, List.not_mem_nil, or_false] at hx
    rcases hx with rfl | rfl | rfl
    · exact mach_shows M
    · exact (pat_shows hn hl).le (by decide) (by decide)
    · exact (sta_shows M h).le (by decide) (by decide)) (Nat.le_refl 3)
section
variable {P : Program} {w : World} {K : PySem.W.Frag} {mg : Str → Option Value} {base : Heap}
def sp_one_step : Sp3 := fun ds S Q => ∃ (k : Int) (taps st : List Int), ds = [.p (mach k taps), .p (tupI st)] ∧ Mach k taps ∧ Sta k taps st ∧ Q (.p (tupI (stepL k taps st))) S
def t_one_step : TS3 := tSeq3 (tAsgT3 (tVar3 0) (.tup (.cons (.nm 2) (.cons (.nm 3) (.nil))))) (tRet3 (tOp3 rAdd3 (tSl3 (tVar3 1) (tPart3 (tC3 (.int 1))) (tNoPart3)) (tTup3 (tCons3 (tOp3 rMod3 (tCB3 (rSumA3) (tCons3 (tPure (tLc3 (tZipI3 (tCons3 (tVar3 3) (tCons3 (tVar3 1) (tNil3)))) (.tup (.cons (.nm 4) (.cons (.nm 5) (.nil)))) (tYes3) (tOp3 rMulT3 (tVar3 4) (tVar3 5)) [4, 5])) (tNil3))) (tVar3 2)) (tNil3)))))
theorem dv_one_step (T : Txt K mg) {f : Addr} {cdv : Value} {A : Around} {outer : List Env} {s : Shared} {H : Hp} {E : XK} (hr : Room 0 (A.deeper (envOfC "one_step" (defScope s_one_step) s.heap.objs.size f cdv))) : QSs (cxOf CX0 P w K mg base nm_one_step "one_step" (defScope s_one_step) f cdv A outer s H E).nox (defBody s_one_step) t_one_step :=
  qss_cons (qs_asgT (qv 0) (qb_tup rfl (qbs_cons (qb_nm (i := 2) sc_one_step.nd rfl (by first | exact .inl rfl | exact .inr rfl)) (qbs_cons (qb_nm (i := 3) sc_one_step.nd rfl (by first | exact .inl rfl | exact .inr rfl)) (qbs_nil))))) (qss_one (qs_ret (qe_op oq_add (qe_slice (qv 1) (qo_some (qe_int)) (qo_none)) (qe_tup (qa_cons (qe_op oq_mod (qe_cb (cq_sumA rfl) (by rfl) T.b_sum (by decide +kernel) (qa_cons (qn_pure (qn_lc (own := [("tap", 4), ("one", 5)]) rfl sc_one_step.nd (qi_zip rfl (by rfl) T.b_zip (qa_cons (qv 3) (qa_cons (qv 1) (qa_nil)))) (blkOk_by (own := [("tap", 4), ("one", 5)]) (N := nm_one_step) (sc := defScope s_one_step) (by decide +kernel)) (fun _ _ _ _ _ => qb_tup rfl (qbs_cons (qb_nm (i := 4) sc_one_step.nd rfl (by first | exact .inl rfl | exact .inr rfl)) (qbs_cons (qb_nm (i := 5) sc_one_step.nd rfl (by first | exact .inl rfl | exact .inr rfl)) (qbs_nil)))) (fun _ _ _ _ _ => qts_nil) (fun _ _ _ _ _ => qe_op oq_mulT (qv 4) (qv 5)))) (qa_nil))) (qv 2)) (qa_nil))))))
theorem rd_one_step : ∀ ds S Q, sp_one_step ds S Q → t_one_step { nx := fun _ S' => Fin3 S Q (.p .none) S', rt := Fin3 S Q } (env0 6 ds) S := by
  rintro _ S Q ⟨k, taps, st, rfl, M, h, q⟩
  have hp := M.pos
  unfold t_one_step mach tupI
  walk_at "rd"
  simp only [cut3_tail, tail_ints]
  refine ⟨fun i acc s => s = S ∧ acc = (((taps.zip st).take i).map fun p => p.1 * p.2).map PyData.int, ⟨rfl, rfl⟩, fun _ _ _ _ => trivial, ?_, ?_⟩
  · rintro i d acc s hd ⟨rfl, rfl⟩
    obtain ⟨a, b, h1, h2, rfl⟩ := zip3_get hd
    rw [List.getElem?_map] at h1 h2
    obtain ⟨x, hx, rfl⟩ := Option.map_eq_some_iff.mp h1
    obtain ⟨y, hy, rfl⟩ := Option.map_eq_some_iff.mp h2
    have hxm := M.ok x (List.mem_of_getElem? hx)
    walk_at "rd"
    refine ⟨.inl ⟨by omega, by omega⟩, ?_⟩
    rw [take_one (show (taps.zip st)[i]? = some (x, y) from List.getElem?_zip_eq_some.mpr ⟨hx, hy⟩)]
    simp
  · rintro acc s ⟨rfl, rfl⟩
    have hl : (zip3 (taps.map PyData.int) (st.map PyData.int)).length = (taps.zip st).length := by rw [zip3_len, List.length_zip, List.length_map, List.length_map]
    rw [hl, List.take_length]
    walk_at "rd"
    rw [allP_ints]
    walk_at "rd"
    have := h.len
    refine ⟨hp.1, by rw [List.length_tail]; omega, fin_p ?_⟩
    have e : List.map PyData.int st.tail ++ [PyData.int ((List.map (fun p : Int × Int => p.1 * p.2) (taps.zip st)).sum % k)] = List.map PyData.int (stepL k taps st) := by
      unfold stepL dotL
      rw [List.map_append]
      rfl
    rw [e]
    exact q
theorem ok_one_step (T : Txt K mg) : Ok3 P w K mg base 1 "one_step" sp_one_step := by
  obtain ⟨f, fd, F, hm, hb⟩ := T.f_one_step
  exact Ok3.mk' F hm hb sc_one_step (fun ds S Q h => by simp only [sp_one_step] at h; first | (obtain ⟨rfl, _⟩ := h; rfl) | (obtain ⟨_, rfl, _⟩ := h; rfl) | (obtain ⟨_, _, rfl, _⟩ := h; rfl) | (obtain ⟨_, _, _, rfl, _⟩ := h; rfl) | (obtain ⟨_, _, _, _, rfl, _⟩ := h; rfl) | (obtain ⟨_, _, _, _, _, rfl, _⟩ := h; rfl) | (obtain ⟨_, _, _, _, _, _, rfl, _⟩ := h; rfl) | exact h.2) (fun cdv A outer s H E hr => dv_one_step T hr) rd_one_step
def sp_round_of : Sp3 := fun ds S Q => ∃ (k : Int) (taps st : List Int) (p : Nat), ds = [.p (mach k taps), .p (tupI st)] ∧ Mach k taps ∧ Sta k taps st ∧ Per k taps st p ∧ Q (.p (.list ((List.range p).map fun j => tupI (itr k taps j st)))) S
def t_round_of : TS3 := tSeq3 (tSet3 2 (tOwn (tLst3 (tCons3 (tVar3 1) (tNil3))))) (tSeq3 (tSet3 3 (tCB3 sp_one_step (tCons3 (tVar3 0) (tCons3 (tVar3 1) (tNil3))))) (tSeq3 (tWhile3 (tTest3 (tOp3 rNeS3 (tVar3 3) (tVar3 1))) (tSeq3 (tDrop3 (tApp3 (tVar3 2) (tVar3 3))) (tSet3 3 (tCB3 sp_one_step (tCons3 (tVar3 0) (tCons3 (tVar3 3) (tNil3))))))) (tFrz3 2 (tRet3 (tVar3 2)))))
theorem dv_round_of (T : Txt K mg) {f : Addr} {cdv : Value} {A : Around} {outer : List Env} {s : Shared} {H : Hp} {E : XK} (hr : Room 1 (A.deeper (envOfC "round_of" (defScope s_round_of) s.heap.objs.size f cdv))) : QSs (cxOf CX0 P w K mg base nm_round_of "round_of" (defScope s_round_of) f cdv A outer s H E).nox (defBody s_round_of) t_round_of :=
  qss_cons (qs_set (i := 2) sc_round_of.nd rfl (by first | exact .inl rfl | exact .inr rfl) (qn_own (qn_lst (qa_cons (qv 1) (qa_nil))))) (qss_cons (qs_set (i := 3) sc_round_of.nd rfl (by first | exact .inl rfl | exact .inr rfl) (qe_call (ok_one_step T) (hr.mono (by decide)) (by rfl) (qa_cons (qv 0) (qa_cons (qv 1) (qa_nil))))) (qss_cons (qs_while PassesOwn.never (qt_cmp (oq_neS hr.units) (qv 3) (qv 1)) (qss_cons (qs_expr (qe_append (qv 2) (qv 3))) (qss_one (qs_set (i := 3) sc_round_of.nd rfl (by first | exact .inl rfl | exact .inr rfl) (qe_call (ok_one_step T) (hr.mono (by decide)) (by rfl) (qa_cons (qv 0) (qa_cons (qv 3) (qa_nil)))))))) (qss_frz 2 (qss_one (qs_ret (qv 2))))))
theorem rd_round_of : ∀ ds S Q, sp_round_of ds S Q → t_round_of { nx := fun _ S' => Fin3 S Q (.p .none) S', rt := Fin3 S Q } (env0 4 ds) S := by
  rintro _ S Q ⟨k, taps, st, p, rfl, M, h, P, q⟩
  unfold t_round_of sp_one_step
  walk_at "rd"
  refine ⟨k, taps, st, rfl, M, h, ?_⟩
  refine ⟨fun m e s => ∃ i, i + 1 ≤ p ∧ m = p - i ∧ e = [some (.p (mach k taps)), some (.p (tupI st)), some (.loc S.length), some (.p (tupI (itr k taps (i + 1) st)))] ∧ s = S ++ [some (.lst ((List.range (i + 1)).map fun j => tupI (itr k taps j st)))], ⟨_, 0, P.pos, rfl, rfl, rfl⟩, ?_⟩
  rintro m _ _ ⟨i, hi, rfl, rfl, rfl⟩
  have hs := h.itr M (i + 1)
  have sh : ∀ st, Sta k taps st → SeqAt.shaped (tupI st) = true := fun st h => (shows_tupI (n := 9) (fun x hx => by
    have := h.ok x hx
    have := M.pos
    omega) (by rw [h.len]; exact M.pos.2.2.2)).shaped (by decide)
  walk_at "rd"
  have e1 := sh _ hs
  have e2 := sh _ h
  unfold tupI at e1 e2
  unfold tupI
  walk_at "rd"
  have e3 := eqv_tupI (itr k taps (i + 1) st) st
  unfold tupI at e3
  rw [e3]
  refine ⟨⟨e1, e2⟩, ?_⟩
  by_cases hb : itr k taps (i + 1) st = st
  · rw [hb, decide_eq_true rfl]
    walk_at "rd"
    have hip : i + 1 = p := Classical.byContradiction fun hn => P.first (i + 1) (by omega) (by omega) hb
    unfold tFrz3
    walk_at "rd"
    simp only [List.getElem?_append_right (Nat.le_refl _), Nat.sub_self, List.getElem?_cons_zero]
    refine ⟨_, rfl, ?_⟩
    walk_at "rd"
    rw [hip]
    exact fin_of (by simp) q
  · rw [decide_eq_false hb]
    walk_at "rd"
    simp only [List.getElem?_append_right (Nat.le_refl _), Nat.sub_self, List.getElem?_cons_zero]
    have hip : i + 1 < p := by
      rcases Nat.lt_or_ge (i + 1) p with z | z
      · exact z
      · have : i + 1 = p := by omega
        rw [this] at hb
        exact absurd P.back hb
    have := P.few
    walk_at "rd"
    refine ⟨by simp; omega, k, taps, _, rfl, M, hs, wk_self ⟨p - (i + 1), by omega, i + 1, by omega, rfl, rfl, ?_⟩⟩
    rw [List.range_succ (n := i + 1), List.map_append]
    simp
theorem ok_round_of (T : Txt K mg) : Ok3 P w K mg base 2 "round_of" sp_round_of := by
  obtain ⟨f, fd, F, hm, hb⟩ := T.f_round_of
  exact Ok3.mk' F hm hb sc_round_of (fun ds S Q h => by simp only [sp_round_of] at h; first | (obtain ⟨rfl, _⟩ := h; rfl) | (obtain ⟨_, rfl, _⟩ := h; rfl) | (obtain ⟨_, _, rfl, _⟩ := h; rfl) | (obtain ⟨_, _, _, rfl, _⟩ := h; rfl) | (obtain ⟨_, _, _, _, rfl, _⟩ := h; rfl) | (obtain ⟨_, _, _, _, _, rfl, _⟩ := h; rfl) | (obtain ⟨_, _, _, _, _, _, rfl, _⟩ := h; rfl) | exact h.2) (fun cdv A outer s H E hr => dv_round_of T hr) rd_round_of
def sp_shown : Sp3 := fun ds S Q => ∃ (k : Int) (taps st : List Int) (pat : List Nat), ds = [.p (mach k taps), .p (tupI (patI pat)), .p (tupI st)] ∧ Mach k taps ∧ Sta k taps st ∧ Q (.p (tupI (seen k taps pat st))) S
def t_shown : TS3 := tSeq3 (tSet3 3 (tCB3 sp_round_of (tCons3 (tVar3 0) (tCons3 (tVar3 2) (tNil3))))) (tRet3 (tCB3 (rTupOf3) (tCons3 (tPure (tLc3 (tSeqI3 (tVar3 1)) (.nm 4) (tYes3) (tOp3 rIx3 (tOp3 rIx3 (tVar3 3) (tOp3 rMod3 (tVar3 4) (tCB3 (rLen3) (tCons3 (tVar3 3) (tNil3))))) (tC3 (.int 0))) [4])) (tNil3))))
theorem dv_shown (T : Txt K mg) {f : Addr} {cdv : Value} {A : Around} {outer : List Env} {s : Shared} {H : Hp} {E : XK} (hr : Room 2 (A.deeper (envOfC "shown" (defScope s_shown) s.heap.objs.size f cdv))) : QSs (cxOf CX0 P w K mg base nm_shown "shown" (defScope s_shown) f cdv A outer s H E).nox (defBody s_shown) t_shown :=
  qss_cons (qs_set (i := 3) sc_shown.nd rfl (by first | exact .inl rfl | exact .inr rfl) (qe_call (ok_round_of T) (hr.mono (by decide)) (by rfl) (qa_cons (qv 0) (qa_cons (qv 2) (qa_nil))))) (qss_one (qs_ret (qe_ty cq_tuple (by rfl) T.b_tuple (by decide +kernel) (qa_cons (qn_pure (qn_lc (own := [("number", 4)]) rfl sc_shown.nd (qi_seq (qv 1)) (blkOk_by (own := [("number", 4)]) (N := nm_shown) (sc := defScope s_shown) (by decide +kernel)) (fun _ _ _ _ _ => qb_nm (i := 4) sc_shown.nd rfl (by first | exact .inl rfl | exact .inr rfl)) (fun _ _ _ _ _ => qts_nil) (fun _ _ _ _ _ => qe_ix iq_seq (qe_ix iq_seq (qv 3) (qe_op oq_mod (qv 4) (qe_cb cq_len (by rfl) T.b_len (by decide +kernel) (qa_cons (qv 3) (qa_nil))))) (qe_int)))) (qa_nil)))))
theorem rd_shown : ∀ ds S Q, sp_shown ds S Q → t_shown { nx := fun _ S' => Fin3 S Q (.p .none) S', rt := Fin3 S Q } (env0 5 ds) S := by
  rintro _ S Q ⟨k, taps, st, pat, rfl, M, h, q⟩
  obtain ⟨p, P⟩ := per_ex M h
  have hp0 := P.pos
  unfold t_shown sp_round_of
  walk_at "rd"
  refine ⟨k, taps, st, p, rfl, M, h, P, ?_⟩
  unfold tupI patI
  walk_at "rd"
  refine ⟨fun i acc s => s = S ∧ acc = ((seen k taps pat st).take i).map PyData.int, ⟨rfl, rfl⟩, fun _ _ _ _ => trivial, ?_, ?_⟩
  · rintro i d acc s hd ⟨rfl, rfl⟩
    rw [List.getElem?_map, List.getElem?_map] at hd
    obtain ⟨x, hx, rfl⟩ := Option.map_eq_some_iff.mp hd
    obtain ⟨n, hn, rfl⟩ := Option.map_eq_some_iff.mp hx
    walk_at "rd"
    have hm : (n : Int) % (p : Int) = ((n % p : Nat) : Int) := rfl
    simp only [List.length_range, hm, show atI ((List.range p).map fun j => PyData.tuple ((itr k taps j st).map PyData.int)) ((n % p : Nat) : Int) = some (PyData.tuple ((itr k taps n st).map PyData.int)) from atI_nat (by rw [List.getElem?_map, List.getElem?_range (Nat.mod_lt _ hp0), ← P.mod n]; rfl)]
    walk_at "rd"
    simp only [List.getElem?_map, hdI_get ((h.itr M n).ne M), Option.map_some]
    have e : (seen k taps pat st)[i]? = some (hdI (itr k taps n st)) := by
      unfold seen
      rw [List.getElem?_map, hn]
      rfl
    refine ⟨by omega, ?_⟩
    rw [take_one e]
    simp
  · rintro acc s ⟨rfl, rfl⟩
    have e : (seen k taps pat st).take pat.length = seen k taps pat st := List.take_of_length_le (by rw [seen_len]; exact Nat.le_refl _)
    simp only [e]
    exact fin_p q
theorem ok_shown (T : Txt K mg) : Ok3 P w K mg base 3 "shown" sp_shown := by
  obtain ⟨f, fd, F, hm, hb⟩ := T.f_shown
  exact Ok3.mk' F hm hb sc_shown (fun ds S Q h => by simp only [sp_shown] at h; first | (obtain ⟨rfl, _⟩ := h; rfl) | (obtain ⟨_, rfl, _⟩ := h; rfl) | (obtain ⟨_, _, rfl, _⟩ := h; rfl) | (obtain ⟨_, _, _, rfl, _⟩ := h; rfl) | (obtain ⟨_, _, _, _, rfl, _⟩ := h; rfl) | (obtain ⟨_, _, _, _, _, rfl, _⟩ := h; rfl) | (obtain ⟨_, _, _, _, _, _, rfl, _⟩ := h; rfl) | exact h.2) (fun cdv A outer s H E hr => dv_shown T hr) rd_shown
def sp__law_hand : Sp3 := fun ds S Q => ∃ (ns : List Int) (k : Int), ds = [.p (.list (ns.map PyData.int)), .p (.int k)] ∧ ns.length ≤ 63 ∧ 0 ≤ k ∧ k ≤ 1000 ∧ ∀ S', HdB S' S.length 0 → S'.take S.length = S → S'.length = S.length + 1 → Q (.loc S.length) S'
def t__law_hand : TS3 := tSeq3 (tSet3 2 (tC3 (.int 0))) (tSeq3 (tIfS3 (tTest3 (tOp3 rLt3 (tVar3 1) (tCB3 (rLen3) (tCons3 (tVar3 0) (tNil3))))) (tSet3 2 (tOp3 rIx3 (tVar3 0) (tVar3 1))) (tNext3)) (tSeq3 (tSet3 3 (tOp3 rMulT3 (tOp3 rMod3 (tVar3 2) (tOp3 rMulT3 (tOp3 rPow3 (tC3 (.int 10)) (tC3 (.int 60))) (tOp3 rPow3 (tC3 (.int 10)) (tC3 (.int 30))))) (tCB3 (rIntOf3) (tCons3 (tOp3 rGe3 (tVar3 2) (tOp3 rPow3 (tC3 (.int 10)) (tC3 (.int 18)))) (tNil3))))) (tRet3 (tOwn (tLst3 (tCons3 (tVar3 3) (tCons3 (tOp3 rMod3 (tOp3 rAdd3 (tOp3 rAdd3 (tOp3 rMod3 (tVar3 2) (tC3 (.int 2305843009213693951))) (tOp3 rMulT3 (tC3 (.int 7919)) (tVar3 1))) (tC3 (.int 3))) (tC3 (.int 2305843009213693951))) (tCons3 (tC3 (.int 0)) (tNil3)))))))))
theorem dv__law_hand (T : Txt K mg) {f : Addr} {cdv : Value} {A : Around} {outer : List Env} {s : Shared} {H : Hp} {E : XK} (hr : Room 0 (A.deeper (envOfC "_law_hand" (defScope s__law_hand) s.heap.objs.size f cdv))) : QSs (cxOf CX0 P w K mg base nm__law_hand "_law_hand" (defScope s__law_hand) f cdv A outer s H E).nox (defBody s__law_hand) t__law_hand :=
  qss_cons (qs_set (i := 2) sc__law_hand.nd rfl (by first | exact .inl rfl | exact .inr rfl) (qe_int)) (qss_cons (qs_if (qt_cmp oq_lt (qv 1) (qe_cb cq_len (by rfl) T.b_len (by decide +kernel) (qa_cons (qv 0) (qa_nil)))) (qss_one (qs_set (i := 2) sc__law_hand.nd rfl (by first | exact .inl rfl | exact .inr rfl) (qe_ix iq_seq (qv 0) (qv 1)))) (qss_nil)) (qss_cons (qs_set (i := 3) sc__law_hand.nd rfl (by first | exact .inl rfl | exact .inr rfl) (qe_op oq_mulT (qe_op oq_mod (qv 2) (qe_op oq_mulT (qe_op oq_pow (qe_int) (qe_int)) (qe_op oq_pow (qe_int) (qe_int)))) (qe_ty cq_int (by rfl) T.b_int (by decide +kernel) (qa_cons (qe_cmp oq_ge (qv 2) (qe_op oq_pow (qe_int) (qe_int))) (qa_nil))))) (qss_one (qs_ret (qn_own (qn_lst (qa_cons (qv 3) (qa_cons (qe_op oq_mod (qe_op oq_add (qe_op oq_add (qe_op oq_mod (qv 2) (qe_int)) (qe_op oq_mulT (qe_int) (qv 1))) (qe_int)) (qe_int)) (qa_cons (qe_int) (qa_nil))))))))))
theorem rd__law_hand : ∀ ds S Q, sp__law_hand ds S Q → t__law_hand { nx := fun _ S' => Fin3 S Q (.p .none) S', rt := Fin3 S Q } (env0 4 ds) S := by
  rintro _ S Q ⟨ns, k, rfl, hl, h0, h1, q⟩
  unfold t__law_hand
  walk_at "rd"
  have fin : ∀ g x : Int, Fin3 S Q (.loc S.length) (S ++ [some (.lst [.int g, .int x, .int 0])]) := fun g x => fin_new (q _ ⟨g, x, 0, by simp, by decide, by decide⟩ (by simp) (by simp))
  by_cases h : k < (ns.length : Int)
  · rw [if_pos h]
    obtain ⟨n, rfl⟩ := Int.eq_ofNat_of_zero_le h0
    have hn : n < ns.length := by omega
    simp only [show atI (ns.map PyData.int) (n : Int) = some (.int ns[n]) from atI_nat (by rw [List.getElem?_map, List.getElem?_eq_getElem hn]; rfl)]
    generalize ns[n] = c
    walk_at "cj"
    exact fin _ _
  · rw [if_neg h]
    walk_at "cj"
    exact fin _ _
theorem ok__law_hand (T : Txt K mg) : Ok3 P w K mg base 1 "_law_hand" sp__law_hand := by
  obtain ⟨f, fd, F, hm, hb⟩ := T.f__law_hand
  exact Ok3.mk' F hm hb sc__law_hand (fun ds S Q h => by simp only [sp__law_hand] at h; first | (obtain ⟨rfl, _⟩ := h; rfl) | (obtain ⟨_, rfl, _⟩ := h; rfl) | (obtain ⟨_, _, rfl, _⟩ := h; rfl) | (obtain ⟨_, _, _, rfl, _⟩ := h; rfl) | (obtain ⟨_, _, _, _, rfl, _⟩ := h; rfl) | (obtain ⟨_, _, _, _, _, rfl, _⟩ := h; rfl) | (obtain ⟨_, _, _, _, _, _, rfl, _⟩ := h; rfl) | exact h.2) (fun cdv A outer s H E hr => dv__law_hand T hr) rd__law_hand
def sp__law_take : Sp3 := fun ds S Q => ∃ (n : Nat) (m b : Int), ds = [.loc n, .p (.int m)] ∧ 0 < m ∧ m ≤ 1000000000000 ∧ HdB S n b ∧ b ≤ 1000000000000 ∧ ∀ d S', 0 ≤ d → d < m → HdTo n S S' → HdB S' n (b + 1) → Q (.p (.int d)) S'
def t__law_take : TS3 := tSeq3 (tIfS3 (tTest3 (tOp3 rGt3 (tOp3 rIx3 (tVar3 0) (tC3 (.int 0))) (tC3 (.int 0)))) (tSeq3 (tSet3 2 (tOp3 rMod3 (tOp3 rIx3 (tVar3 0) (tC3 (.int 0))) (tVar3 1))) (tSeq3 (tPut3 (tOp3 rDiv3 (tOp3 rIx3 (tVar3 0) (tC3 (.int 0))) (tVar3 1)) (tVar3 0) (tC3 (.int 0))) (tRet3 (tVar3 2)))) (tNext3)) (tSeq3 (tPut3 (tOp3 rAdd3 (tOp3 rIx3 (tVar3 0) (tC3 (.int 2))) (tC3 (.int 1))) (tVar3 0) (tC3 (.int 2))) (tSeq3 (tSet3 3 (tOp3 rMod3 (tOp3 rMulT3 (tOp3 rAdd3 (tOp3 rAdd3 (tOp3 rIx3 (tVar3 0) (tC3 (.int 1))) (tOp3 rMulT3 (tOp3 rMulT3 (tC3 (.int 65537)) (tOp3 rIx3 (tVar3 0) (tC3 (.int 2)))) (tOp3 rIx3 (tVar3 0) (tC3 (.int 2))))) (tC3 (.int 11))) (tC3 (.int 48271))) (tC3 (.int 2305843009213693921)))) (tSeq3 (tSet3 3 (tOp3 rMod3 (tOp3 rMulT3 (tVar3 3) (tOp3 rAdd3 (tOp3 rMod3 (tVar3 3) (tC3 (.int 1000003))) (tOp3 rMulT3 (tC3 (.int 99991)) (tOp3 rIx3 (tVar3 0) (tC3 (.int 2)))))) (tC3 (.int 2305843009213693907)))) (tRet3 (tOp3 rMod3 (tOp3 rAdd3 (tOp3 rDiv3 (tVar3 3) (tC3 (.int 97))) (tOp3 rDiv3 (tVar3 3) (tC3 (.int 1000033)))) (tVar3 1))))))
theorem dv__law_take (T : Txt K mg) {f : Addr} {cdv : Value} {A : Around} {outer : List Env} {s : Shared} {H : Hp} {E : XK} (hr : Room 0 (A.deeper (envOfC "_law_take" (defScope s__law_take) s.heap.objs.size f cdv))) : QSs (cxOf CX0 P w K mg base nm__law_take "_law_take" (defScope s__law_take) f cdv A outer s H E).nox (defBody s__law_take) t__law_take :=
  qss_cons (qs_if (qt_cmp oq_gt (qe_ix iq_seq (qv 0) (qe_int)) (qe_int)) (qss_cons (qs_set (i := 2) sc__law_take.nd rfl (by first | exact .inl rfl | exact .inr rfl) (qe_op oq_mod (qe_ix iq_seq (qv 0) (qe_int)) (qv 1))) (qss_cons (qs_put (qe_op oq_div (qe_ix iq_seq (qv 0) (qe_int)) (qv 1)) (qv 0) (qe_int)) (qss_one (qs_ret (qv 2))))) (qss_nil)) (qss_cons (qs_put (qe_op oq_add (qe_ix iq_seq (qv 0) (qe_int)) (qe_int)) (qv 0) (qe_int)) (qss_cons (qs_set (i := 3) sc__law_take.nd rfl (by first | exact .inl rfl | exact .inr rfl) (qe_op oq_mod (qe_op oq_mulT (qe_op oq_add (qe_op oq_add (qe_ix iq_seq (qv 0) (qe_int)) (qe_op oq_mulT (qe_op oq_mulT (qe_int) (qe_ix iq_seq (qv 0) (qe_int))) (qe_ix iq_seq (qv 0) (qe_int)))) (qe_int)) (qe_int)) (qe_int))) (qss_cons (qs_set (i := 3) sc__law_take.nd rfl (by first | exact .inl rfl | exact .inr rfl) (qe_op oq_mod (qe_op oq_mulT (qv 3) (qe_op oq_add (qe_op oq_mod (qv 3) (qe_int)) (qe_op oq_mulT (qe_int) (qe_ix iq_seq (qv 0) (qe_int))))) (qe_int))) (qss_one (qs_ret (qe_op oq_mod (qe_op oq_add (qe_op oq_div (qv 3) (qe_int)) (qe_op oq_div (qv 3) (qe_int))) (qv 1)))))))
theorem rd__law_take : ∀ ds S Q, sp__law_take ds S Q → t__law_take { nx := fun _ S' => Fin3 S Q (.p .none) S', rt := Fin3 S Q } (env0 4 ds) S := by
  rintro _ S Q ⟨n, m, b, rfl, h0, h1, hd, hb, q⟩
  have hlt := hd.hd.lt
  obtain ⟨g, x, c, hs, c0, c1⟩ := hd
  unfold t__law_take
  walk_at "rd"
  simp only [hs, List.getElem?_set_self hlt]
  walk_at "rd"
  try simp only [hs, List.getElem?_set_self hlt]
  walk_at "rd"
  by_cases hg : 0 < g
  · rw [if_pos hg]
    refine ⟨h0, ⟨h0, .inl (by omega)⟩, fin_hd ⟨_, _, _, rfl⟩ (q _ _ (Int.emod_nonneg _ (by omega)) (Int.emod_lt_of_pos _ h0) ⟨_, _, _, rfl⟩ ⟨_, _, _, List.getElem?_set_self hlt, c0, by omega⟩)⟩
  · rw [if_neg hg]
    have := Int.emod_nonneg ((x + 65537 * (c + 1) * (c + 1) + 11) * 48271) (show (2305843009213693921 : Int) ≠ 0 by decide)
    have := Int.emod_lt_of_pos ((x + 65537 * (c + 1) * (c + 1) + 11) * 48271) (show (0 : Int) < 2305843009213693921 by decide)
    walk_at "cj"
    refine fin_hd ⟨_, _, _, rfl⟩ (q _ _ (Int.emod_nonneg _ (by omega)) (Int.emod_lt_of_pos _ h0) ⟨_, _, _, rfl⟩ ⟨_, _, _, List.getElem?_set_self hlt, by omega, by omega⟩)
theorem ok__law_take (T : Txt K mg) : Ok3 P w K mg base 1 "_law_take" sp__law_take := by
  obtain ⟨f, fd, F, hm, hb⟩ := T.f__law_take
  exact Ok3.mk' F hm hb sc__law_take (fun ds S Q h => by simp only [sp__law_take] at h; first | (obtain ⟨rfl, _⟩ := h; rfl) | (obtain ⟨_, rfl, _⟩ := h; rfl) | (obtain ⟨_, _, rfl, _⟩ := h; rfl) | (obtain ⟨_, _, _, rfl, _⟩ := h; rfl) | (obtain ⟨_, _, _, _, rfl, _⟩ := h; rfl) | (obtain ⟨_, _, _, _, _, rfl, _⟩ := h; rfl) | (obtain ⟨_, _, _, _, _, _, rfl, _⟩ := h; rfl) | exact h.2) (fun cdv A outer s H E hr => dv__law_take T hr) rd__law_take
def sp__law_pick : Sp3 := fun ds S Q => ∃ (n : Nat) (b : Int) (xs : List PyData), ds = [.loc n, .p (.list xs)] ∧ xs ≠ [] ∧ xs.length ≤ 1000000 ∧ HdB S n b ∧ b ≤ 1000000000000 ∧ ∀ x S', x ∈ xs → HdTo n S S' → HdB S' n (b + 1) → Q (.p x) S'
def t__law_pick : TS3 := tRet3 (tOp3 rIx3 (tVar3 1) (tCB3 sp__law_take (tCons3 (tVar3 0) (tCons3 (tCB3 (rLen3) (tCons3 (tVar3 1) (tNil3))) (tNil3)))))
theorem dv__law_pick (T : Txt K mg) {f : Addr} {cdv : Value} {A : Around} {outer : List Env} {s : Shared} {H : Hp} {E : XK} (hr : Room 1 (A.deeper (envOfC "_law_pick" (defScope s__law_pick) s.heap.objs.size f cdv))) : QSs (cxOf CX0 P w K mg base nm__law_pick "_law_pick" (defScope s__law_pick) f cdv A outer s H E).nox (defBody s__law_pick) t__law_pick :=
  qss_one (qs_ret (qe_ix iq_seq (qv 1) (qe_call (ok__law_take T) (hr.mono (by decide)) (by rfl) (qa_cons (qv 0) (qa_cons (qe_cb cq_len (by rfl) T.b_len (by decide +kernel) (qa_cons (qv 1) (qa_nil))) (qa_nil))))))
theorem rd__law_pick : ∀ ds S Q, sp__law_pick ds S Q → t__law_pick { nx := fun _ S' => Fin3 S Q (.p .none) S', rt := Fin3 S Q } (env0 2 ds) S := by
  rintro _ S Q ⟨n, b, xs, rfl, hne, hl, hd, hb, q⟩
  have hpos : 0 < xs.length := List.length_pos_iff.mpr hne
  unfold t__law_pick sp__law_take
  walk_at "rd"
  refine ⟨n, _, b, rfl, by omega, by omega, hd, hb, fun d S' a0 a1 t hd' => ?_⟩
  obtain ⟨j, x, rfl, hj, hx, e⟩ := atI_lt a0 a1
  simp only [e]
  exact fin_hd t (q x S' (List.mem_of_getElem? hx) t hd')
theorem ok__law_pick (T : Txt K mg) : Ok3 P w K mg base 2 "_law_pick" sp__law_pick := by
  obtain ⟨f, fd, F, hm, hb⟩ := T.f__law_pick
  exact Ok3.mk' F hm hb sc__law_pick (fun ds S Q h => by simp only [sp__law_pick] at h; first | (obtain ⟨rfl, _⟩ := h; rfl) | (obtain ⟨_, rfl, _⟩ := h; rfl) | (obtain ⟨_, _, rfl, _⟩ := h; rfl) | (obtain ⟨_, _, _, rfl, _⟩ := h; rfl) | (obtain ⟨_, _, _, _, rfl, _⟩ := h; rfl) | (obtain ⟨_, _, _, _, _, rfl, _⟩ := h; rfl) | (obtain ⟨_, _, _, _, _, _, rfl, _⟩ := h; rfl) | exact h.2) (fun cdv A outer s H E hr => dv__law_pick T hr) rd__law_pick
def sp__law_machine : Sp3 := fun ds S Q => ∃ (n : Nat) (b : Int), ds = [.loc n] ∧ HdB S n b ∧ b ≤ 1000000 ∧ ∀ k taps S', Mach k taps → HdTo n S S' → HdB S' n (b + 20) → Q (.p (mach k taps)) S'
def t__law_machine : TS3 := tSeq3 (tAsgT3 (tCB3 sp__law_pick (tCons3 (tVar3 0) (tCons3 (tPure (tLst3 (tCons3 (tTup3 (tCons3 (tC3 (.int 2)) (tCons3 (tC3 (.int 9)) (tNil3)))) (tCons3 (tTup3 (tCons3 (tC3 (.int 3)) (tCons3 (tC3 (.int 5)) (tNil3)))) (tCons3 (tTup3 (tCons3 (tC3 (.int 5)) (tCons3 (tC3 (.int 3)) (tNil3)))) (tCons3 (tTup3 (tCons3 (tC3 (.int 7)) (tCons3 (tC3 (.int 3)) (tNil3)))) (tNil3))))))) (tNil3)))) (.tup (.cons (.nm 1) (.cons (.nm 2) (.nil))))) (tSeq3 (tSet3 3 (tOp3 rIx3 (tPure (tLst3 (tCons3 (tVar3 2) (tCons3 (tOp3 rAdd3 (tC3 (.int 1)) (tCB3 sp__law_take (tCons3 (tVar3 0) (tCons3 (tVar3 2) (tNil3))))) (tCons3 (tOp3 rAdd3 (tC3 (.int 1)) (tCB3 sp__law_take (tCons3 (tVar3 0) (tCons3 (tVar3 2) (tNil3))))) (tNil3)))))) (tCB3 sp__law_take (tCons3 (tVar3 0) (tCons3 (tC3 (.int 3)) (tNil3)))))) (tSeq3 (tSet3 4 (tTup3 (tCons3 (tOp3 rAdd3 (tC3 (.int 1)) (tCB3 sp__law_take (tCons3 (tVar3 0) (tCons3 (tOp3 rSub3 (tVar3 1) (tC3 (.int 1))) (tNil3))))) (tNil3)))) (tSeq3 (tFor3 (tRng1 (tCons3 (tOp3 rSub3 (tVar3 3) (tC3 (.int 1))) (tNil3))) (.nm 5) (tSet3 4 (tOp3 rAdd3 (tVar3 4) (tTup3 (tCons3 (tCB3 sp__law_take (tCons3 (tVar3 0) (tCons3 (tVar3 1) (tNil3)))) (tNil3)))))) (tRet3 (tTup3 (tCons3 (tVar3 1) (tCons3 (tVar3 4) (tNil3))))))))
theorem dv__law_machine (T : Txt K mg) {f : Addr} {cdv : Value} {A : Around} {outer : List Env} {s : Shared} {H : Hp} {E : XK} (hr : Room 2 (A.deeper (envOfC "_law_machine" (defScope s__law_machine) s.heap.objs.size f cdv))) : QSs (cxOf CX0 P w K mg base nm__law_machine "_law_machine" (defScope s__law_machine) f cdv A outer s H E).nox (defBody s__law_machine) t__law_machine :=
  qss_cons (qs_asgT (qe_call (ok__law_pick T) (hr.mono (by decide)) (by rfl) (qa_cons (qv 0) (qa_cons (qn_pure (qn_lst (qa_cons (qe_tup (qa_cons (qe_int) (qa_cons (qe_int) (qa_nil)))) (qa_cons (qe_tup (qa_cons (qe_int) (qa_cons (qe_int) (qa_nil)))) (qa_cons (qe_tup (qa_cons (qe_int) (qa_cons (qe_int) (qa_nil)))) (qa_cons (qe_tup (qa_cons (qe_int) (qa_cons (qe_int) (qa_nil)))) (qa_nil))))))) (qa_nil)))) (qb_tup rfl (qbs_cons (qb_nm (i := 1) sc__law_machine.nd rfl (by first | exact .inl rfl | exact .inr rfl)) (qbs_cons (qb_nm (i := 2) sc__law_machine.nd rfl (by first | exact .inl rfl | exact .inr rfl)) (qbs_nil))))) (qss_cons (qs_set (i := 3) sc__law_machine.nd rfl (by first | exact .inl rfl | exact .inr rfl) (qe_ix iq_seq (qn_pure (qn_lst (qa_cons (qv 2) (qa_cons (qe_op oq_add (qe_int) (qe_call (ok__law_take T) (hr.mono (by decide)) (by rfl) (qa_cons (qv 0) (qa_cons (qv 2) (qa_nil))))) (qa_cons (qe_op oq_add (qe_int) (qe_call (ok__law_take T) (hr.mono (by decide)) (by rfl) (qa_cons (qv 0) (qa_cons (qv 2) (qa_nil))))) (qa_nil)))))) (qe_call (ok__law_take T) (hr.mono (by decide)) (by rfl) (qa_cons (qv 0) (qa_cons (qe_int) (qa_nil)))))) (qss_cons (qs_set (i := 4) sc__law_machine.nd rfl (by first | exact .inl rfl | exact .inr rfl) (qe_tup (qa_cons (qe_op oq_add (qe_int) (qe_call (ok__law_take T) (hr.mono (by decide)) (by rfl) (qa_cons (qv 0) (qa_cons (qe_op oq_sub (qv 1) (qe_int)) (qa_nil))))) (qa_nil)))) (qss_cons (qs_for PassesOwn.never rfl (qi_range1 (by rfl) T.b_range (qa_cons (qe_op oq_sub (qv 3) (qe_int)) (qa_nil))) (qb_nm (i := 5) sc__law_machine.nd rfl (by first | exact .inl rfl | exact .inr rfl)) (qss_one (qs_set (i := 4) sc__law_machine.nd rfl (by first | exact .inl rfl | exact .inr rfl) (qe_op oq_add (qv 4) (qe_tup (qa_cons (qe_call (ok__law_take T) (hr.mono (by decide)) (by rfl) (qa_cons (qv 0) (qa_cons (qv 1) (qa_nil)))) (qa_nil))))))) (qss_one (qs_ret (qe_tup (qa_cons (qv 1) (qa_cons (qv 4) (qa_nil)))))))))
theorem rd__law_machine : ∀ ds S Q, sp__law_machine ds S Q → t__law_machine { nx := fun _ S' => Fin3 S Q (.p .none) S', rt := Fin3 S Q } (env0 6 ds) S := by
  rintro _ S Q ⟨n, b, rfl, hd, hb, q⟩
  unfold t__law_machine sp__law_take sp__law_pick
  walk_at "rd"
  refine ⟨n, b, _, rfl, by simp, by simp, hd, by omega, fun x S1 hx t1 hd1 => ?_⟩
  obtain ⟨k, most, rfl, hk⟩ : ∃ k most : Int, x = .tuple [.int k, .int most] ∧ ((k = 2 ∧ most = 9) ∨ (k = 3 ∧ most = 5) ∨ (k = 5 ∧ most = 3) ∨ (k = 7 ∧ most = 3)) := by
    simp only [List.mem_cons, List.not_mem_nil, or_false] at hx
    rcases hx with rfl | rfl | rfl | rfl
    · exact ⟨2, 9, rfl, by simp⟩
    · exact ⟨3, 5, rfl, by simp⟩
    · exact ⟨5, 3, rfl, by simp⟩
    · exact ⟨7, 3, rfl, by simp⟩
  walk_at "rd"
  refine ⟨n, most, b + 1, rfl, by omega, by omega, hd1, by omega, fun d2 S2 a2 b2 t2 hd2 => ?_⟩
  refine ⟨n, most, b + 2, rfl, by omega, by omega, hd2.le (by omega), by omega, fun d3 S3 a3 b3 t3 hd3 => ?_⟩
  refine ⟨n, 3, b + 3, rfl, by omega, by omega, hd3.le (by omega), by omega, fun d4 S4 a4 b4 t4 hd4 => ?_⟩
  obtain ⟨many, hv, hm1, hm2⟩ : ∃ v, atI [PyData.int most, PyData.int (1 + d2), PyData.int (1 + d3)] d4 = some (.int v) ∧ 1 ≤ v ∧ v ≤ most := by
    obtain ⟨j, rfl⟩ := Int.eq_ofNat_of_zero_le a4
    match j, b4 with
    | 0, _ => exact ⟨_, rfl, by omega, by omega⟩
    | 1, _ => exact ⟨_, rfl, by omega, by omega⟩
    | 2, _ => exact ⟨_, rfl, by omega, by omega⟩
    | j + 3, h => omega
  simp only [hv]
  walk_at "rd"
  refine ⟨n, k - 1, b + 4, rfl, by omega, by omega, hd4.le (by omega), by omega, fun d5 S5 a5 b5 t5 hd5 => ?_⟩
  walk_at "rd"
  refine ⟨by omega, ?_⟩
  have tt := (((t1.trans t2).trans t3).trans t4).trans t5
  refine ⟨fun i e s => ∃ (r : List Int) (z : Option D), r.length = i ∧ (∀ t ∈ r, 0 ≤ t ∧ t < k) ∧ HdTo n S s ∧ HdB s n (b + 5 + i) ∧ e = [some (.loc n), some (.p (.int k)), some (.p (.int most)), some (.p (.int many)), some (.p (tupI ((1 + d5) :: r))), z], ⟨[], none, rfl, (fun t ht => nomatch ht), tt, hd5.le (by omega), rfl⟩, fun _ _ _ _ => trivial, ?_, ?_⟩
  · rintro i d e s hx ⟨r, z, hr, hrk, ts, hds, rfl⟩
    obtain ⟨hi, rfl⟩ := rng_get hx
    unfold tupI
    walk_at "rd"
    refine ⟨n, k, b + 5 + i, rfl, by omega, by omega, hds, by omega, fun d6 S6 a6 b6 t6 hd6 => ?_⟩
    refine ⟨by omega, wk_self ⟨r ++ [d6], some (.p (.int (0 + (i : Nat)))), by simp [hr], fun t ht => ?_, ts.trans t6, hd6.le (by omega), ?_⟩⟩
    · rcases List.mem_append.mp ht with ht | ht
      · exact hrk t ht
      · rw [List.mem_singleton] at ht
        subst ht
        exact ⟨a6, b6⟩
    · simp
  · rintro e s ⟨r, z, hr, hrk, ts, hds, rfl⟩
    rw [rng_len] at hr hds
    walk_at "rd"
    refine fin_hd ts (q k _ s ⟨?_, ⟨_, _, rfl, by omega⟩, fun t ht => ?_⟩ ts (hds.le (by omega)))
    · rw [List.length_cons]
      omega
    · rcases List.mem_cons.mp ht with rfl | ht
      · omega
      · exact hrk t ht
theorem ok__law_machine (T : Txt K mg) : Ok3 P w K mg base 3 "_law_machine" sp__law_machine := by
  obtain ⟨f, fd, F, hm, hb⟩ := T.f__law_machine
  exact Ok3.mk' F hm hb sc__law_machine (fun ds S Q h => by simp only [sp__law_machine] at h; first | (obtain ⟨rfl, _⟩ := h; rfl) | (obtain ⟨_, rfl, _⟩ := h; rfl) | (obtain ⟨_, _, rfl, _⟩ := h; rfl) | (obtain ⟨_, _, _, rfl, _⟩ := h; rfl) | (obtain ⟨_, _, _, _, rfl, _⟩ := h; rfl) | (obtain ⟨_, _, _, _, _, rfl, _⟩ := h; rfl) | (obtain ⟨_, _, _, _, _, _, rfl, _⟩ := h; rfl) | exact h.2) (fun cdv A outer s H E hr => dv__law_machine T hr) rd__law_machine
def sp__law_step : Sp3 := fun ds S Q => ∃ (k : Int) (taps st : List Int), ds = [.p (mach k taps), .p (tupI st)] ∧ Mach k taps ∧ Sta k taps st ∧ Q (.p (tupI (stepL k taps st))) S
def t__law_step : TS3 := tSeq3 (tAsgT3 (tVar3 0) (.tup (.cons (.nm 2) (.cons (.nm 3) (.nil))))) (tSeq3 (tSet3 4 (tC3 (.int 0))) (tSeq3 (tFor3 (tZipI3 (tCons3 (tVar3 3) (tCons3 (tVar3 1) (tNil3)))) (.tup (.cons (.nm 5) (.cons (.nm 6) (.nil)))) (tSet3 4 (tOp3 rAdd3 (tVar3 4) (tOp3 rMulT3 (tVar3 5) (tVar3 6))))) (tRet3 (tOp3 rAdd3 (tSl3 (tVar3 1) (tPart3 (tC3 (.int 1))) (tNoPart3)) (tTup3 (tCons3 (tOp3 rMod3 (tVar3 4) (tVar3 2)) (tNil3)))))))
theorem dv__law_step (T : Txt K mg) {f : Addr} {cdv : Value} {A : Around} {outer : List Env} {s : Shared} {H : Hp} {E : XK} (hr : Room 0 (A.deeper (envOfC "_law_step" (defScope s__law_step) s.heap.objs.size f cdv))) : QSs (cxOf CX0 P w K mg base nm__law_step "_law_step" (defScope s__law_step) f cdv A outer s H E).nox (defBody s__law_step) t__law_step :=
  qss_cons (qs_asgT (qv 0) (qb_tup rfl (qbs_cons (qb_nm (i := 2) sc__law_step.nd rfl (by first | exact .inl rfl | exact .inr rfl)) (qbs_cons (qb_nm (i := 3) sc__law_step.nd rfl (by first | exact .inl rfl | exact .inr rfl)) (qbs_nil))))) (qss_cons (qs_set (i := 4) sc__law_step.nd rfl (by first | exact .inl rfl | exact .inr rfl) (qe_int)) (qss_cons (qs_for PassesOwn.never rfl (qi_zip rfl (by rfl) T.b_zip (qa_cons (qv 3) (qa_cons (qv 1) (qa_nil)))) (qb_tup rfl (qbs_cons (qb_nm (i := 5) sc__law_step.nd rfl (by first | exact .inl rfl | exact .inr rfl)) (qbs_cons (qb_nm (i := 6) sc__law_step.nd rfl (by first | exact .inl rfl | exact .inr rfl)) (qbs_nil)))) (qss_one (qs_set (i := 4) sc__law_step.nd rfl (by first | exact .inl rfl | exact .inr rfl) (qe_op oq_add (qv 4) (qe_op oq_mulT (qv 5) (qv 6)))))) (qss_one (qs_ret (qe_op oq_add (qe_slice (qv 1) (qo_some (qe_int)) (qo_none)) (qe_tup (qa_cons (qe_op oq_mod (qv 4) (qv 2)) (qa_nil))))))))
theorem rd__law_step : ∀ ds S Q, sp__law_step ds S Q → t__law_step { nx := fun _ S' => Fin3 S Q (.p .none) S', rt := Fin3 S Q } (env0 7 ds) S := by
  rintro _ S Q ⟨k, taps, st, rfl, M, h, q⟩
  have hp := M.pos
  unfold t__law_step mach tupI
  walk_at "rd"
  refine ⟨fun i e s => ∃ z z' : Option D, s = S ∧ e = [some (.p (.tuple [.int k, .tuple (taps.map PyData.int)])), some (.p (.tuple (st.map PyData.int))), some (.p (.int k)), some (.p (.tuple (taps.map PyData.int))), some (.p (.int (((taps.zip st).take i).map fun p => p.1 * p.2).sum)), z, z'], ⟨none, none, rfl, rfl⟩, fun _ _ _ _ => trivial, ?_, ?_⟩
  · rintro i d e s hd ⟨z, z', rfl, rfl⟩
    obtain ⟨a, b, h1, h2, rfl⟩ := zip3_get hd
    rw [List.getElem?_map] at h1 h2
    obtain ⟨x, hx, rfl⟩ := Option.map_eq_some_iff.mp h1
    obtain ⟨y, hy, rfl⟩ := Option.map_eq_some_iff.mp h2
    have hxm := M.ok x (List.mem_of_getElem? hx)
    walk_at "rd"
    refine ⟨.inl ⟨by omega, by omega⟩, wk_self ⟨some (.p (.int x)), some (.p (.int y)), rfl, ?_⟩⟩
    rw [take_one (show (taps.zip st)[i]? = some (x, y) from List.getElem?_zip_eq_some.mpr ⟨hx, hy⟩)]
    simp
  · rintro e s ⟨z, z', rfl, rfl⟩
    have hl : (zip3 (taps.map PyData.int) (st.map PyData.int)).length = (taps.zip st).length := by rw [zip3_len, List.length_zip, List.length_map, List.length_map]
    rw [hl, List.take_length]
    walk_at "rd"
    simp only [cut3_tail, tail_ints]
    walk_at "rd"
    have := h.len
    refine ⟨hp.1, by rw [List.length_tail]; omega, fin_p ?_⟩
    have e : List.map PyData.int st.tail ++ [PyData.int ((List.map (fun p : Int × Int => p.1 * p.2) (taps.zip st)).sum % k)] = List.map PyData.int (stepL k taps st) := by
      unfold stepL dotL
      rw [List.map_append]
      rfl
    rw [e]
    exact q
theorem ok__law_step (T : Txt K mg) : Ok3 P w K mg base 1 "_law_step" sp__law_step := by
  obtain ⟨f, fd, F, hm, hb⟩ := T.f__law_step
  exact Ok3.mk' F hm hb sc__law_step (fun ds S Q h => by simp only [sp__law_step] at h; first | (obtain ⟨rfl, _⟩ := h; rfl) | (obtain ⟨_, rfl, _⟩ := h; rfl) | (obtain ⟨_, _, rfl, _⟩ := h; rfl) | (obtain ⟨_, _, _, rfl, _⟩ := h; rfl) | (obtain ⟨_, _, _, _, rfl, _⟩ := h; rfl) | (obtain ⟨_, _, _, _, _, rfl, _⟩ := h; rfl) | (obtain ⟨_, _, _, _, _, _, rfl, _⟩ := h; rfl) | exact h.2) (fun cdv A outer s H E hr => dv__law_step T hr) rd__law_step
def sp__law_round : Sp3 := fun ds S Q => ∃ (k : Int) (taps st : List Int) (p : Nat), ds = [.p (mach k taps), .p (tupI st)] ∧ Mach k taps ∧ Sta k taps st ∧ Per k taps st p ∧ Q (.p (.list ((List.range p).map fun j => tupI (itr k taps j st)))) S
def t__law_round : TS3 := tSeq3 (tPr3 2 3 (tCons3 (tOwn (tLst3 (tCons3 (tVar3 1) (tNil3)))) (tCons3 (tCB3 sp__law_step (tCons3 (tVar3 0) (tCons3 (tVar3 1) (tNil3)))) (tNil3)))) (tSeq3 (tWhile3 (tTest3 (tOp3 rNeS3 (tVar3 3) (tVar3 1))) (tSeq3 (tDrop3 (tApp3 (tVar3 2) (tVar3 3))) (tSet3 3 (tCB3 sp__law_step (tCons3 (tVar3 0) (tCons3 (tVar3 3) (tNil3))))))) (tFrz3 2 (tRet3 (tVar3 2))))
theorem dv__law_round (T : Txt K mg) {f : Addr} {cdv : Value} {A : Around} {outer : List Env} {s : Shared} {H : Hp} {E : XK} (hr : Room 1 (A.deeper (envOfC "_law_round" (defScope s__law_round) s.heap.objs.size f cdv))) : QSs (cxOf CX0 P w K mg base nm__law_round "_law_round" (defScope s__law_round) f cdv A outer s H E).nox (defBody s__law_round) t__law_round :=
  qss_cons (qs_par (i := 2) (j := 3) rfl sc__law_round.nd rfl rfl (by decide) rfl rfl (qa_cons (qn_own (qn_lst (qa_cons (qv 1) (qa_nil)))) (qa_cons (qe_call (ok__law_step T) (hr.mono (by decide)) (by rfl) (qa_cons (qv 0) (qa_cons (qv 1) (qa_nil)))) (qa_nil))) (by rfl)) (qss_cons (qs_while PassesOwn.never (qt_cmp (oq_neS hr.units) (qv 3) (qv 1)) (qss_cons (qs_expr (qe_append (qv 2) (qv 3))) (qss_one (qs_set (i := 3) sc__law_round.nd rfl (by first | exact .inl rfl | exact .inr rfl) (qe_call (ok__law_step T) (hr.mono (by decide)) (by rfl) (qa_cons (qv 0) (qa_cons (qv 3) (qa_nil)))))))) (qss_frz 2 (qss_one (qs_ret (qv 2)))))
theorem rd__law_round : ∀ ds S Q, sp__law_round ds S Q → t__law_round { nx := fun _ S' => Fin3 S Q (.p .none) S', rt := Fin3 S Q } (env0 4 ds) S := by
  rintro _ S Q ⟨k, taps, st, p, rfl, M, h, P, q⟩
  unfold t__law_round sp__law_step
  walk_at "rd"
  refine ⟨k, taps, st, rfl, M, h, ?_⟩
  refine ⟨fun m e s => ∃ i, i + 1 ≤ p ∧ m = p - i ∧ e = [some (.p (mach k taps)), some (.p (tupI st)), some (.loc S.length), some (.p (tupI (itr k taps (i + 1) st)))] ∧ s = S ++ [some (.lst ((List.range (i + 1)).map fun j => tupI (itr k taps j st)))], ⟨_, 0, P.pos, rfl, rfl, rfl⟩, ?_⟩
  rintro m _ _ ⟨i, hi, rfl, rfl, rfl⟩
  have hs := h.itr M (i + 1)
  have sh : ∀ st, Sta k taps st → SeqAt.shaped (tupI st) = true := fun st h => (shows_tupI (n := 9) (fun x hx => by
    have := h.ok x hx
    have := M.pos
    omega) (by rw [h.len]; exact M.pos.2.2.2)).shaped (by decide)
  walk_at "rd"
  have e1 := sh _ hs
  have e2 := sh _ h
  unfold tupI at e1 e2
  unfold tupI
  walk_at "rd"
  have e3 := eqv_tupI (itr k taps (i + 1) st) st
  unfold tupI at e3
  rw [e3]
  refine ⟨⟨e1, e2⟩, ?_⟩
  by_cases hb : itr k taps (i + 1) st = st
  · rw [hb, decide_eq_true rfl]
    walk_at "rd"
    have hip : i + 1 = p := Classical.byContradiction fun hn => P.first (i + 1) (by omega) (by omega) hb
    unfold tFrz3
    walk_at "rd"
    simp only [List.getElem?_append_right (Nat.le_refl _), Nat.sub_self, List.getElem?_cons_zero]
    refine ⟨_, rfl, ?_⟩
    walk_at "rd"
    rw [hip]
    exact fin_of (by simp) q
  · rw [decide_eq_false hb]
    walk_at "rd"
    simp only [List.getElem?_append_right (Nat.le_refl _), Nat.sub_self, List.getElem?_cons_zero]
    have hip : i + 1 < p := by
      rcases Nat.lt_or_ge (i + 1) p with z | z
      · exact z
      · have : i + 1 = p := by omega
        rw [this] at hb
        exact absurd P.back hb
    have := P.few
    walk_at "rd"
    refine ⟨by simp; omega, k, taps, _, rfl, M, hs, wk_self ⟨p - (i + 1), by omega, i + 1, by omega, rfl, rfl, ?_⟩⟩
    rw [List.range_succ (n := i + 1), List.map_append]
    simp
theorem ok__law_round (T : Txt K mg) : Ok3 P w K mg base 2 "_law_round" sp__law_round := by
  obtain ⟨f, fd, F, hm, hb⟩ := T.f__law_round
  exact Ok3.mk' F hm hb sc__law_round (fun ds S Q h => by simp only [sp__law_round] at h; first | (obtain ⟨rfl, _⟩ := h; rfl) | (obtain ⟨_, rfl, _⟩ := h; rfl) | (obtain ⟨_, _, rfl, _⟩ := h; rfl) | (obtain ⟨_, _, _, rfl, _⟩ := h; rfl) | (obtain ⟨_, _, _, _, rfl, _⟩ := h; rfl) | (obtain ⟨_, _, _, _, _, rfl, _⟩ := h; rfl) | (obtain ⟨_, _, _, _, _, _, rfl, _⟩ := h; rfl) | exact h.2) (fun cdv A outer s H E hr => dv__law_round T hr) rd__law_round
def sp__law_state : Sp3 := fun ds S Q => ∃ (n : Nat) (b k : Int) (taps : List Int), ds = [.loc n, .p (mach k taps)] ∧ Mach k taps ∧ HdB S n b ∧ b ≤ 1000000 ∧ ∀ st S', Sta k taps st → HdTo n S S' → HdB S' n (b + 11) → Q (.p (tupI st)) S'
def t__law_state : TS3 := tSeq3 (tAsgT3 (tVar3 1) (.tup (.cons (.nm 2) (.cons (.nm 3) (.nil))))) (tSeq3 (tPr3 4 5 (tCons3 (tCB3 sp__law_take (tCons3 (tVar3 0) (tCons3 (tC3 (.int 5)) (tNil3)))) (tCons3 (tCB3 sp__law_take (tCons3 (tVar3 0) (tCons3 (tCB3 (rLen3) (tCons3 (tVar3 3) (tNil3))) (tNil3)))) (tNil3)))) (tSeq3 (tIfS3 (tTest3 (tOp3 rEqS3 (tVar3 4) (tC3 (.int 0)))) (tRet3 (tOp3 rMulT3 (tTup3 (tCons3 (tC3 (.int 0)) (tNil3))) (tCB3 (rLen3) (tCons3 (tVar3 3) (tNil3))))) (tNext3)) (tSeq3 (tIfS3 (tTest3 (tOp3 rEqS3 (tVar3 4) (tC3 (.int 1)))) (tRet3 (tOp3 rAdd3 (tOp3 rAdd3 (tOp3 rMulT3 (tTup3 (tCons3 (tC3 (.int 0)) (tNil3))) (tVar3 5)) (tTup3 (tCons3 (tC3 (.int 1)) (tNil3)))) (tOp3 rMulT3 (tTup3 (tCons3 (tC3 (.int 0)) (tNil3))) (tOp3 rSub3 (tOp3 rSub3 (tCB3 (rLen3) (tCons3 (tVar3 3) (tNil3))) (tC3 (.int 1))) (tVar3 5))))) (tNext3)) (tRet3 (tCB3 (rTupOf3) (tCons3 (tPure (tLc3 (tSeqI3 (tVar3 3)) (.nm 6) (tYes3) (tCB3 sp__law_take (tCons3 (tVar3 0) (tCons3 (tVar3 2) (tNil3)))) [6])) (tNil3)))))))
theorem dv__law_state (T : Txt K mg) {f : Addr} {cdv : Value} {A : Around} {outer : List Env} {s : Shared} {H : Hp} {E : XK} (hr : Room 1 (A.deeper (envOfC "_law_state" (defScope s__law_state) s.heap.objs.size f cdv))) : QSs (cxOf CX0 P w K mg base nm__law_state "_law_state" (defScope s__law_state) f cdv A outer s H E).nox (defBody s__law_state) t__law_state :=
  qss_cons (qs_asgT (qv 1) (qb_tup rfl (qbs_cons (qb_nm (i := 2) sc__law_state.nd rfl (by first | exact .inl rfl | exact .inr rfl)) (qbs_cons (qb_nm (i := 3) sc__law_state.nd rfl (by first | exact .inl rfl | exact .inr rfl)) (qbs_nil))))) (qss_cons (qs_par (i := 4) (j := 5) rfl sc__law_state.nd rfl rfl (by decide) rfl rfl (qa_cons (qe_call (ok__law_take T) (hr.mono (by decide)) (by rfl) (qa_cons (qv 0) (qa_cons (qe_int) (qa_nil)))) (qa_cons (qe_call (ok__law_take T) (hr.mono (by decide)) (by rfl) (qa_cons (qv 0) (qa_cons (qe_cb cq_len (by rfl) T.b_len (by decide +kernel) (qa_cons (qv 3) (qa_nil))) (qa_nil)))) (qa_nil))) (by rfl)) (qss_cons (qs_if (qt_cmp (oq_eqS hr.units) (qv 4) (qe_int)) (qss_one (qs_ret (qe_op oq_mulT (qe_tup (qa_cons (qe_int) (qa_nil))) (qe_cb cq_len (by rfl) T.b_len (by decide +kernel) (qa_cons (qv 3) (qa_nil)))))) (qss_nil)) (qss_cons (qs_if (qt_cmp (oq_eqS hr.units) (qv 4) (qe_int)) (qss_one (qs_ret (qe_op oq_add (qe_op oq_add (qe_op oq_mulT (qe_tup (qa_cons (qe_int) (qa_nil))) (qv 5)) (qe_tup (qa_cons (qe_int) (qa_nil)))) (qe_op oq_mulT (qe_tup (qa_cons (qe_int) (qa_nil))) (qe_op oq_sub (qe_op oq_sub (qe_cb cq_len (by rfl) T.b_len (by decide +kernel) (qa_cons (qv 3) (qa_nil))) (qe_int)) (qv 5)))))) (qss_nil)) (qss_one (qs_ret (qe_ty cq_tuple (by rfl) T.b_tuple (by decide +kernel) (qa_cons (qn_pure (qn_lc (own := [("_law_tap", 6)]) rfl sc__law_state.nd (qi_seq (qv 3)) (blkOk_by (own := [("_law_tap", 6)]) (N := nm__law_state) (sc := defScope s__law_state) (by decide +kernel)) (fun _ _ _ _ _ => qb_nm (i := 6) sc__law_state.nd rfl (by first | exact .inl rfl | exact .inr rfl)) (fun _ _ _ _ _ => qts_nil) (fun _ _ _ _ _ => qe_call (ok__law_take T) (hr.mono (by decide)) (by rfl) (qa_cons (qv 0) (qa_cons (qv 2) (qa_nil)))))) (qa_nil))))))))
theorem rd__law_state : ∀ ds S Q, sp__law_state ds S Q → t__law_state { nx := fun _ S' => Fin3 S Q (.p .none) S', rt := Fin3 S Q } (env0 7 ds) S := by
  rintro _ S Q ⟨n, b, k, taps, rfl, M, hd, hb, q⟩
  have hp := M.pos
  unfold t__law_state sp__law_take mach tupI
  walk_at "rd"
  refine ⟨n, 5, b, rfl, by omega, by omega, hd, by omega, fun d1 S1 a1 b1 t1 hd1 => ?_⟩
  refine ⟨n, _, b + 1, rfl, by omega, by omega, hd1, by omega, fun d2 S2 a2 b2 t2 hd2 => ?_⟩
  have tt := t1.trans t2
  have zer : ∀ m : Int, rep3 [PyData.int 0] m = (List.replicate m.toNat (0 : Int)).map PyData.int := fun m => by rw [rep3_single, List.map_replicate]
  by_cases h0 : d1 = 0
  · rw [if_pos h0]
    walk_at "rd"
    refine ⟨by omega, ?_⟩
    rw [zer]
    refine fin_hd tt (q _ _ ⟨?_, fun t ht => ?_⟩ tt (hd2.le (by omega)))
    · rw [List.length_replicate]
      omega
    · rw [(List.mem_replicate.mp ht).2]
      omega
  · rw [if_neg h0]
    by_cases h1 : d1 = 1
    · rw [if_pos h1]
      walk_at "rd"
      simp only [zer]
      walk_at "rd"
      obtain ⟨j, rfl⟩ := Int.eq_ofNat_of_zero_le a2
      refine ⟨by omega, by rw [List.length_replicate]; omega, by omega, by simp; omega, ?_⟩
      have e : List.map PyData.int (List.replicate ((j : Int)).toNat 0) ++ [PyData.int 1] ++ List.map PyData.int (List.replicate ((taps.length : Int) - 1 - (j : Int)).toNat 0) = List.map PyData.int (List.replicate j 0 ++ [1] ++ List.replicate (taps.length - 1 - j) 0) := by
        rw [List.map_append, List.map_append, show ((taps.length : Int) - 1 - (j : Int)).toNat = taps.length - 1 - j by omega]
        rfl
      rw [e]
      refine fin_hd tt (q _ _ ⟨?_, fun t ht => ?_⟩ tt (hd2.le (by omega)))
      · simp
        omega
      · simp only [List.mem_append, List.mem_replicate, List.mem_singleton] at ht
        have hk2 : 2 ≤ k := by
          have := M.kd
          omega
        omega
    · rw [if_neg h1]
      refine ⟨fun i acc s => ∃ r : List Int, r.length = i ∧ (∀ t ∈ r, 0 ≤ t ∧ t < k) ∧ HdTo n S s ∧ HdB s n (b + 2 + i) ∧ acc = r.map PyData.int, ⟨[], rfl, (fun t ht => nomatch ht), tt, hd2.le (by omega), rfl⟩, fun _ _ _ _ => trivial, ?_, ?_⟩
      · rintro i d acc s hx ⟨r, hr, hrk, ts, hds, rfl⟩
        have hi := (List.getElem?_eq_some_iff.mp hx).1
        rw [List.length_map] at hi
        rw [List.getElem?_map] at hx
        obtain ⟨y, hy, rfl⟩ := Option.map_eq_some_iff.mp hx
        walk_at "rd"
        refine ⟨n, k, b + 2 + i, rfl, by omega, by omega, hds, by omega, fun d6 S6 a6 b6 t6 hd6 => ?_⟩
        refine ⟨r ++ [d6], by simp [hr], fun t ht => ?_, ts.trans t6, hd6.le (by omega), ?_⟩
        · rcases List.mem_append.mp ht with ht | ht
          · exact hrk t ht
          · rw [List.mem_singleton] at ht
            subst ht
            exact ⟨a6, b6⟩
        · simp
      · rintro acc s ⟨r, hr, hrk, ts, hds, rfl⟩
        walk_at "rd"
        refine fin_hd ts (q _ _ ⟨by simpa using hr, hrk⟩ ts (hds.le (by first | omega | (simp; omega))))
theorem ok__law_state (T : Txt K mg) : Ok3 P w K mg base 2 "_law_state" sp__law_state := by
  obtain ⟨f, fd, F, hm, hb⟩ := T.f__law_state
  exact Ok3.mk' F hm hb sc__law_state (fun ds S Q h => by simp only [sp__law_state] at h; first | (obtain ⟨rfl, _⟩ := h; rfl) | (obtain ⟨_, rfl, _⟩ := h; rfl) | (obtain ⟨_, _, rfl, _⟩ := h; rfl) | (obtain ⟨_, _, _, rfl, _⟩ := h; rfl) | (obtain ⟨_, _, _, _, rfl, _⟩ := h; rfl) | (obtain ⟨_, _, _, _, _, rfl, _⟩ := h; rfl) | (obtain ⟨_, _, _, _, _, _, rfl, _⟩ := h; rfl) | exact h.2) (fun cdv A outer s H E hr => dv__law_state T hr) rd__law_state
def sp__law_pattern : Sp3 := fun ds S Q => ∃ (n : Nat) (b : Int), ds = [.loc n, .p (.int 16)] ∧ HdB S n b ∧ b ≤ 1000000 ∧ ∀ pat S', pat.length ≤ 16 → (∀ m ∈ pat, m ≤ 1000000) → HdTo n S S' → HdB S' n (b + 70) → Q (.p (tupI (patI pat))) S'
def t__law_pattern : TS3 := tSeq3 (tPr3 2 3 (tCons3 (tTup3 (tNil3)) (tCons3 (tPure (tLst3 (tCons3 (tC3 (.int 1)) (tCons3 (tC3 (.int 2)) (tCons3 (tC3 (.int 3)) (tCons3 (tOp3 rDiv3 (tVar3 1) (tC3 (.int 2))) (tCons3 (tVar3 1) (tCons3 (tOp3 rAdd3 (tC3 (.int 1)) (tCB3 sp__law_take (tCons3 (tVar3 0) (tCons3 (tVar3 1) (tNil3))))) (tNil3))))))))) (tNil3)))) (tSeq3 (tFor3 (tRng1 (tCons3 (tCB3 sp__law_pick (tCons3 (tVar3 0) (tCons3 (tVar3 3) (tNil3)))) (tNil3))) (.nm 4) (tSeq3 (tPr3 5 6 (tCons3 (tCB3 sp__law_take (tCons3 (tVar3 0) (tCons3 (tC3 (.int 8)) (tNil3)))) (tCons3 (tCB3 sp__law_take (tCons3 (tVar3 0) (tCons3 (tC3 (.int 12)) (tNil3)))) (tNil3)))) (tSeq3 (tSet3 7 (tOp3 rSub3 (tOp3 rPow3 (tC3 (.int 10)) (tC3 (.int 6))) (tCB3 sp__law_take (tCons3 (tVar3 0) (tCons3 (tC3 (.int 600)) (tNil3)))))) (tSeq3 (tSet3 8 (tPure (tLst3 (tCons3 (tVar3 6) (tCons3 (tVar3 6) (tCons3 (tVar3 6) (tCons3 (tVar3 6) (tCons3 (tCB3 sp__law_take (tCons3 (tVar3 0) (tCons3 (tC3 (.int 601)) (tNil3)))) (tNil3))))))))) (tSeq3 (tSet3 8 (tOp3 rAdd3 (tVar3 8) (tPure (tLst3 (tCons3 (tVar3 7) (tCons3 (tC3 (.int 0)) (tCons3 (tCB3 (rSumA3) (tCons3 (tSl3 (tVar3 2) (tNoPart3) (tPart3 (tC3 (.int 1)))) (tNil3))) (tNil3)))))))) (tSet3 2 (tOp3 rAdd3 (tVar3 2) (tTup3 (tCons3 (tOp3 rIx3 (tVar3 8) (tVar3 5)) (tNil3)))))))))) (tRet3 (tVar3 2)))
theorem dv__law_pattern (T : Txt K mg) {f : Addr} {cdv : Value} {A : Around} {outer : List Env} {s : Shared} {H : Hp} {E : XK} (hr : Room 2 (A.deeper (envOfC "_law_pattern" (defScope s__law_pattern) s.heap.objs.size f cdv))) : QSs (cxOf CX0 P w K mg base nm__law_pattern "_law_pattern" (defScope s__law_pattern) f cdv A outer s H E).nox (defBody s__law_pattern) t__law_pattern :=
  qss_cons (qs_par (i := 2) (j := 3) rfl sc__law_pattern.nd rfl rfl (by decide) rfl rfl (qa_cons (qe_tup (qa_nil)) (qa_cons (qn_pure (qn_lst (qa_cons (qe_int) (qa_cons (qe_int) (qa_cons (qe_int) (qa_cons (qe_op oq_div (qv 1) (qe_int)) (qa_cons (qv 1) (qa_cons (qe_op oq_add (qe_int) (qe_call (ok__law_take T) (hr.mono (by decide)) (by rfl) (qa_cons (qv 0) (qa_cons (qv 1) (qa_nil))))) (qa_nil))))))))) (qa_nil))) (by rfl)) (qss_cons (qs_for PassesOwn.never rfl (qi_range1 (by rfl) T.b_range (qa_cons (qe_call (ok__law_pick T) (hr.mono (by decide)) (by rfl) (qa_cons (qv 0) (qa_cons (qv 3) (qa_nil)))) (qa_nil))) (qb_nm (i := 4) sc__law_pattern.nd rfl (by first | exact .inl rfl | exact .inr rfl)) (qss_cons (qs_par (i := 5) (j := 6) rfl sc__law_pattern.nd rfl rfl (by decide) rfl rfl (qa_cons (qe_call (ok__law_take T) (hr.mono (by decide)) (by rfl) (qa_cons (qv 0) (qa_cons (qe_int) (qa_nil)))) (qa_cons (qe_call (ok__law_take T) (hr.mono (by decide)) (by rfl) (qa_cons (qv 0) (qa_cons (qe_int) (qa_nil)))) (qa_nil))) (by rfl)) (qss_cons (qs_set (i := 7) sc__law_pattern.nd rfl (by first | exact .inl rfl | exact .inr rfl) (qe_op oq_sub (qe_op oq_pow (qe_int) (qe_int)) (qe_call (ok__law_take T) (hr.mono (by decide)) (by rfl) (qa_cons (qv 0) (qa_cons (qe_int) (qa_nil)))))) (qss_cons (qs_set (i := 8) sc__law_pattern.nd rfl (by first | exact .inl rfl | exact .inr rfl) (qn_pure (qn_lst (qa_cons (qv 6) (qa_cons (qv 6) (qa_cons (qv 6) (qa_cons (qv 6) (qa_cons (qe_call (ok__law_take T) (hr.mono (by decide)) (by rfl) (qa_cons (qv 0) (qa_cons (qe_int) (qa_nil)))) (qa_nil))))))))) (qss_cons (qs_set (i := 8) sc__law_pattern.nd rfl (by first | exact .inl rfl | exact .inr rfl) (qe_op oq_add (qv 8) (qn_pure (qn_lst (qa_cons (qv 7) (qa_cons (qe_int) (qa_cons (qe_cb (cq_sumA rfl) (by rfl) T.b_sum (by decide +kernel) (qa_cons (qe_slice (qv 2) (qo_none) (qo_some (qe_int))) (qa_nil))) (qa_nil)))))))) (qss_one (qs_set (i := 2) sc__law_pattern.nd rfl (by first | exact .inl rfl | exact .inr rfl) (qe_op oq_add (qv 2) (qe_tup (qa_cons (qe_ix iq_seq (qv 8) (qv 5)) (qa_nil))))))))))) (qss_one (qs_ret (qv 2))))
theorem rd__law_pattern : ∀ ds S Q, sp__law_pattern ds S Q → t__law_pattern { nx := fun _ S' => Fin3 S Q (.p .none) S', rt := Fin3 S Q } (env0 9 ds) S := by
  rintro _ S Q ⟨n, b, rfl, hd, hb, q⟩
  unfold t__law_pattern sp__law_take sp__law_pick
  walk_at "rd"
  refine ⟨⟨by decide, .inl (by decide)⟩, n, 16, b, rfl, by omega, by omega, hd, by omega, fun d1 S1 a1 b1 t1 hd1 => ?_⟩
  walk_at "rd"
  refine ⟨n, b + 1, _, rfl, by simp, by simp, hd1, by omega, fun x S2 hx t2 hd2 => ?_⟩
  obtain ⟨x, rfl, hx1, hx2⟩ : ∃ y : Int, x = .int y ∧ 1 ≤ y ∧ y ≤ 16 := by
    simp only [List.mem_cons, List.not_mem_nil, or_false] at hx
    rcases hx with rfl | rfl | rfl | rfl | rfl | rfl
    · exact ⟨_, rfl, by decide, by decide⟩
    · exact ⟨_, rfl, by decide, by decide⟩
    · exact ⟨_, rfl, by decide, by decide⟩
    · exact ⟨_, rfl, by decide, by decide⟩
    · exact ⟨_, rfl, by decide, by decide⟩
    · exact ⟨_, rfl, by omega, by omega⟩
  walk_at "rd"
  refine ⟨by omega, ?_⟩
  have tt := t1.trans t2
  refine ⟨fun t e s => ∃ (pat : List Nat) (z4 z5 z6 z7 z8 : Option D), pat.length = t ∧ (∀ m ∈ pat, m ≤ 1000000) ∧ HdTo n S s ∧ HdB s n (b + 2 + 4 * t) ∧ e = [some (.loc n), some (.p (.int 16)), some (.p (tupI (patI pat))), some (.p (.list [.int 1, .int 2, .int 3, .int (16 / 2), .int 16, .int (1 + d1)])), z4, z5, z6, z7, z8], ⟨[], none, none, none, none, none, rfl, (fun m hm => nomatch hm), tt, hd2.le (by omega), rfl⟩, fun _ _ _ _ => trivial, ?_, ?_⟩
  · rintro i d e s hdi ⟨pat, z4, z5, z6, z7, z8, hpl, hpb, ts, hds, rfl⟩
    obtain ⟨hi, rfl⟩ := rng_get hdi
    walk_at "rd"
    refine ⟨n, 8, _, rfl, by omega, by omega, hds, by omega, fun d2 S3 a2 b2 t3 hd3 => ?_⟩
    refine ⟨n, 12, _, rfl, by omega, by omega, hd3, by omega, fun d3 S4 a3 b3 t4 hd4 => ?_⟩
    walk_at "cj"
    refine ⟨n, 600, _, rfl, by omega, by omega, hd4, by omega, fun d4 S5 a4 b4 t5 hd5 => ?_⟩
    walk_at "rd"
    refine ⟨n, 601, _, rfl, by omega, by omega, hd5, by omega, fun d5 S6 a5 b5 t6 hd6 => ?_⟩
    unfold tupI
    walk_at "rd"
    have hc : cut3 ((patI pat).map PyData.int) none (some 1) = ((patI pat).take 1).map PyData.int := by
      rw [show (some (1 : Int)) = some ((1 : Nat) : Int) from rfl, cut3_take, List.map_take]
    simp only [hc, allP_ints]
    obtain ⟨m, hm, hm2⟩ : ∃ m : Nat, ((patI pat).take 1).sum = (m : Int) ∧ m ≤ 1000000 := by
      cases pat with
      | nil => exact ⟨0, rfl, by decide⟩
      | cons y pat => exact ⟨y, by simp [patI], hpb y List.mem_cons_self⟩
    rw [hm]
    walk_at "rd"
    obtain ⟨j3, rfl⟩ := Int.eq_ofNat_of_zero_le a3
    obtain ⟨j4, rfl⟩ := Int.eq_ofNat_of_zero_le a4
    obtain ⟨j5, rfl⟩ := Int.eq_ofNat_of_zero_le a5
    obtain ⟨v, hv, hv2⟩ : ∃ v : Nat, atI [PyData.int (j3 : Int), PyData.int (j3 : Int), PyData.int (j3 : Int), PyData.int (j3 : Int), PyData.int (j5 : Int), PyData.int (1000000 - (j4 : Int)), PyData.int 0, PyData.int (m : Int)] d2 = some (.int (v : Int)) ∧ v ≤ 1000000 := by
      obtain ⟨j, rfl⟩ := Int.eq_ofNat_of_zero_le a2
      match j, b2 with
      | 0, _ => exact ⟨j3, rfl, by omega⟩
      | 1, _ => exact ⟨j3, rfl, by omega⟩
      | 2, _ => exact ⟨j3, rfl, by omega⟩
      | 3, _ => exact ⟨j3, rfl, by omega⟩
      | 4, _ => exact ⟨j5, rfl, by omega⟩
      | 5, _ => exact ⟨1000000 - j4, by rw [show ((1000000 - j4 : Nat) : Int) = 1000000 - (j4 : Int) by omega]; rfl, by omega⟩
      | 6, _ => exact ⟨0, rfl, by decide⟩
      | 7, _ => exact ⟨m, rfl, hm2⟩
      | j + 8, h => omega
    simp only [hv]
    walk_at "rd"
    have ep : List.map PyData.int (patI pat) ++ [PyData.int (v : Int)] = List.map PyData.int (patI (pat ++ [v])) := by simp [patI]
    rw [ep]
    refine ⟨by unfold patI; rw [List.length_map]; omega, wk_self ⟨pat ++ [v], _, _, _, _, _, by simp [hpl], fun m' hm' => ?_, (((ts.trans t3).trans t4).trans t5).trans t6, hd6.le (by omega), rfl⟩⟩
    rcases List.mem_append.mp hm' with h | h
    · exact hpb m' h
    · rw [List.mem_singleton] at h
      omega
  · rintro e s ⟨pat, z4, z5, z6, z7, z8, hpl, hpb, ts, hds, rfl⟩
    rw [rng_len] at hpl hds
    walk_at "rd"
    exact fin_hd ts (q pat s (by omega) hpb ts (hds.le (by omega)))
theorem ok__law_pattern (T : Txt K mg) : Ok3 P w K mg base 3 "_law_pattern" sp__law_pattern := by
  obtain ⟨f, fd, F, hm, hb⟩ := T.f__law_pattern
  exact Ok3.mk' F hm hb sc__law_pattern (fun ds S Q h => by simp only [sp__law_pattern] at h; first | (obtain ⟨rfl, _⟩ := h; rfl) | (obtain ⟨_, rfl, _⟩ := h; rfl) | (obtain ⟨_, _, rfl, _⟩ := h; rfl) | (obtain ⟨_, _, _, rfl, _⟩ := h; rfl) | (obtain ⟨_, _, _, _, rfl, _⟩ := h; rfl) | (obtain ⟨_, _, _, _, _, rfl, _⟩ := h; rfl) | (obtain ⟨_, _, _, _, _, _, rfl, _⟩ := h; rfl) | exact h.2) (fun cdv A outer s H E hr => dv__law_pattern T hr) rd__law_pattern
def sp__law_sum : Sp3 := fun ds S Q => ∃ (k : Int) (a b : List Int), ds = [.p (.int k), .p (tupI a), .p (tupI b)] ∧ 0 < k ∧ Q (.p (tupI (sumL k a b))) S
def t__law_sum : TS3 := tRet3 (tCB3 (rTupOf3) (tCons3 (tPure (tLc3 (tZipI3 (tCons3 (tVar3 1) (tCons3 (tVar3 2) (tNil3)))) (.tup (.cons (.nm 3) (.cons (.nm 4) (.nil)))) (tYes3) (tOp3 rMod3 (tOp3 rAdd3 (tVar3 3) (tVar3 4)) (tVar3 0)) [3, 4])) (tNil3)))
theorem dv__law_sum (T : Txt K mg) {f : Addr} {cdv : Value} {A : Around} {outer : List Env} {s : Shared} {H : Hp} {E : XK} (hr : Room 0 (A.deeper (envOfC "_law_sum" (defScope s__law_sum) s.heap.objs.size f cdv))) : QSs (cxOf CX0 P w K mg base nm__law_sum "_law_sum" (defScope s__law_sum) f cdv A outer s H E).nox (defBody s__law_sum) t__law_sum :=
  qss_one (qs_ret (qe_ty cq_tuple (by rfl) T.b_tuple (by decide +kernel) (qa_cons (qn_pure (qn_lc (own := [("_law_x", 3), ("_law_y", 4)]) rfl sc__law_sum.nd (qi_zip rfl (by rfl) T.b_zip (qa_cons (qv 1) (qa_cons (qv 2) (qa_nil)))) (blkOk_by (own := [("_law_x", 3), ("_law_y", 4)]) (N := nm__law_sum) (sc := defScope s__law_sum) (by decide +kernel)) (fun _ _ _ _ _ => qb_tup rfl (qbs_cons (qb_nm (i := 3) sc__law_sum.nd rfl (by first | exact .inl rfl | exact .inr rfl)) (qbs_cons (qb_nm (i := 4) sc__law_sum.nd rfl (by first | exact .inl rfl | exact .inr rfl)) (qbs_nil)))) (fun _ _ _ _ _ => qts_nil) (fun _ _ _ _ _ => qe_op oq_mod (qe_op oq_add (qv 3) (qv 4)) (qv 0)))) (qa_nil))))
theorem rd__law_sum : ∀ ds S Q, sp__law_sum ds S Q → t__law_sum { nx := fun _ S' => Fin3 S Q (.p .none) S', rt := Fin3 S Q } (env0 5 ds) S := by
  rintro _ S Q ⟨k, a, b, rfl, hk, q⟩
  unfold t__law_sum tupI
  walk_at "rd"
  refine ⟨fun i acc s => s = S ∧ acc = ((sumL k a b).take i).map PyData.int, ⟨rfl, rfl⟩, fun _ _ _ _ => trivial, ?_, ?_⟩
  · rintro i d acc s hd ⟨rfl, rfl⟩
    obtain ⟨x', y', h1, h2, rfl⟩ := zip3_get hd
    rw [List.getElem?_map] at h1 h2
    obtain ⟨x, hx, rfl⟩ := Option.map_eq_some_iff.mp h1
    obtain ⟨y, hy, rfl⟩ := Option.map_eq_some_iff.mp h2
    walk_at "rd"
    have e : (sumL k a b)[i]? = some ((x + y) % k) := by
      unfold sumL
      rw [List.getElem?_map, show (a.zip b)[i]? = some (x, y) from List.getElem?_zip_eq_some.mpr ⟨hx, hy⟩]
      rfl
    refine ⟨hk, ?_⟩
    rw [take_one e]
    simp
  · rintro acc s ⟨rfl, rfl⟩
    have e : (sumL k a b).take (zip3 (a.map PyData.int) (b.map PyData.int)).length = sumL k a b := List.take_of_length_le (by
      unfold sumL
      rw [zip3_len, List.length_map, List.length_map, List.length_map, List.length_zip]
      exact Nat.le_refl _)
    simp only [e]
    exact fin_p q
theorem ok__law_sum (T : Txt K mg) : Ok3 P w K mg base 1 "_law_sum" sp__law_sum := by
  obtain ⟨f, fd, F, hm, hb⟩ := T.f__law_sum
  exact Ok3.mk' F hm hb sc__law_sum (fun ds S Q h => by simp only [sp__law_sum] at h; first | (obtain ⟨rfl, _⟩ := h; rfl) | (obtain ⟨_, rfl, _⟩ := h; rfl) | (obtain ⟨_, _, rfl, _⟩ := h; rfl) | (obtain ⟨_, _, _, rfl, _⟩ := h; rfl) | (obtain ⟨_, _, _, _, rfl, _⟩ := h; rfl) | (obtain ⟨_, _, _, _, _, rfl, _⟩ := h; rfl) | (obtain ⟨_, _, _, _, _, _, rfl, _⟩ := h; rfl) | exact h.2) (fun cdv A outer s H E hr => dv__law_sum T hr) rd__law_sum
def sp_law : Sp3 := spLaw3
def t_law_b2 : TS3 := tSeq3 (tPr3 6 7 (tCons3 (tCB3 sp__law_state (tCons3 (tVar3 2) (tCons3 (tVar3 3) (tNil3)))) (tCons3 (tCB3 sp__law_pattern (tCons3 (tVar3 2) (tCons3 (tC3 (.int 16)) (tNil3)))) (tNil3)))) (tSeq3 (tSet3 8 (tCB3 sp__law_round (tCons3 (tVar3 3) (tCons3 (tVar3 6) (tNil3))))) (tSeq3 (tSet3 9 (tCB3 (rTupOf3) (tCons3 (tPure (tLc3 (tSeqI3 (tVar3 7)) (.nm 12) (tYes3) (tOp3 rIx3 (tOp3 rIx3 (tVar3 8) (tOp3 rMod3 (tVar3 12) (tCB3 (rLen3) (tCons3 (tVar3 8) (tNil3))))) (tC3 (.int 0))) [12])) (tNil3)))) (tSeq3 (tSet3 10 (tCB3 (rReprD3) (tCons3 (tPure (tLst3 (tCons3 (tVar3 3) (tCons3 (tVar3 7) (tCons3 (tVar3 6) (tNil3)))))) (tNil3)))) (tSeq3 (tIfS3 (tOr3 (tTest3 (tOp3 rNeS3 (tCB3 (rReprD3) (tCons3 (tCB3 sp_shown (tCons3 (tVar3 3) (tCons3 (tVar3 7) (tCons3 (tVar3 6) (tNil3))))) (tNil3))) (tCB3 (rReprD3) (tCons3 (tVar3 9) (tNil3))))) (tTest3 (tOp3 rNeS3 (tCB3 (rReprD3) (tCons3 (tPure (tLst3 (tCons3 (tVar3 3) (tCons3 (tVar3 7) (tCons3 (tVar3 6) (tNil3)))))) (tNil3))) (tVar3 10)))) (tRet3 (tC3 (.bool false))) (tNext3)) (tSeq3 (tSet3 11 (tCB3 sp_shown (tCons3 (tVar3 3) (tCons3 (tVar3 7) (tCons3 (tCB3 sp__law_sum (tCons3 (tOp3 rIx3 (tVar3 3) (tC3 (.int 0))) (tCons3 (tVar3 6) (tCons3 (tVar3 4) (tNil3))))) (tNil3)))))) (tSeq3 (tIfS3 (tTest3 (tOp3 rNeS3 (tVar3 11) (tCB3 sp__law_sum (tCons3 (tOp3 rIx3 (tVar3 3) (tC3 (.int 0))) (tCons3 (tVar3 9) (tCons3 (tCB3 sp_shown (tCons3 (tVar3 3) (tCons3 (tVar3 7) (tCons3 (tVar3 4) (tNil3))))) (tNil3))))))) (tRet3 (tC3 (.bool false))) (tNext3)) (tSeq3 (tIfS3 (tTest3 (tOp3 rNeS3 (tCB3 (rReprD3) (tCons3 (tCB3 sp_shown (tCons3 (tVar3 3) (tCons3 (tVar3 7) (tCons3 (tVar3 6) (tNil3))))) (tNil3))) (tCB3 (rReprD3) (tCons3 (tVar3 9) (tNil3))))) (tRet3 (tC3 (.bool false))) (tNext3)) (tSet3 4 (tVar3 6)))))))))
def t_law_b1 : TS3 := tSeq3 (tSet3 2 (tCB3 sp__law_hand (tCons3 (tVar3 0) (tCons3 (tVar3 1) (tNil3))))) (tSeq3 (tSet3 3 (tCB3 sp__law_machine (tCons3 (tVar3 2) (tNil3)))) (tSeq3 (tSet3 4 (tCB3 sp__law_state (tCons3 (tVar3 2) (tCons3 (tVar3 3) (tNil3))))) (tFor3 (tRng1 (tCons3 (tC3 (.int 3)) (tNil3))) (.nm 5) (t_law_b2))))
def t_law : TS3 := tSeq3 (tFor3 (tRng1 (tCons3 (tCB3 (rInt2 (fun i j => if j > i then j else i)) (tCons3 (tC3 (.int 1)) (tCons3 (tCB3 (rInt2 (fun i j => if j < i then j else i)) (tCons3 (tCB3 (rLen3) (tCons3 (tVar3 0) (tNil3))) (tCons3 (tC3 (.int 4)) (tNil3)))) (tNil3)))) (tNil3))) (.nm 1) (t_law_b1)) (tRet3 (tC3 (.bool true)))
theorem dv_law (T : Txt K mg) {f : Addr} {cdv : Value} {A : Around} {outer : List Env} {s : Shared} {H : Hp} {E : XK} (hgd : A.guards = some []) (hr : Room 3 (A.deeper (envOfC "law" (defScope s_law) s.heap.objs.size f cdv))) : QSs (cxOf CX0 P w K mg base nm_law "law" (defScope s_law) f cdv A outer s H E).nox (defBody s_law) t_law :=
  qss_cons (qs_for PassesOwn.never rfl (qi_range1 (by rfl) T.b_range (qa_cons (qe_cb (cq_max2 rfl) (by rfl) T.b_max (by decide +kernel) (qa_cons (qe_int) (qa_cons (qe_cb (cq_min2 rfl) (by rfl) T.b_min (by decide +kernel) (qa_cons (qe_cb cq_len (by rfl) T.b_len (by decide +kernel) (qa_cons (qv 0) (qa_nil))) (qa_cons (qe_int) (qa_nil)))) (qa_nil)))) (qa_nil))) (qb_nm (i := 1) sc_law.nd rfl (by first | exact .inl rfl | exact .inr rfl)) (qss_cons (qs_set (i := 2) sc_law.nd rfl (by first | exact .inl rfl | exact .inr rfl) (qe_call (ok__law_hand T) (hr.mono (by decide)) (by rfl) (qa_cons (qv 0) (qa_cons (qv 1) (qa_nil))))) (qss_cons (qs_set (i := 3) sc_law.nd rfl (by first | exact .inl rfl | exact .inr rfl) (qe_call (ok__law_machine T) (hr.mono (by decide)) (by rfl) (qa_cons (qv 2) (qa_nil)))) (qss_cons (qs_set (i := 4) sc_law.nd rfl (by first | exact .inl rfl | exact .inr rfl) (qe_call (ok__law_state T) (hr.mono (by decide)) (by rfl) (qa_cons (qv 2) (qa_cons (qv 3) (qa_nil))))) (qss_one (qs_for PassesOwn.never rfl (qi_range1 (by rfl) T.b_range (qa_cons (qe_int) (qa_nil))) (qb_nm (i := 5) sc_law.nd rfl (by first | exact .inl rfl | exact .inr rfl)) (qss_cons (qs_par (i := 6) (j := 7) rfl sc_law.nd rfl rfl (by decide) rfl rfl (qa_cons (qe_call (ok__law_state T) (hr.mono (by decide)) (by rfl) (qa_cons (qv 2) (qa_cons (qv 3) (qa_nil)))) (qa_cons (qe_call (ok__law_pattern T) (hr.mono (by decide)) (by rfl) (qa_cons (qv 2) (qa_cons (qe_int) (qa_nil)))) (qa_nil))) (by rfl)) (qss_cons (qs_set (i := 8) sc_law.nd rfl (by first | exact .inl rfl | exact .inr rfl) (qe_call (ok__law_round T) (hr.mono (by decide)) (by rfl) (qa_cons (qv 3) (qa_cons (qv 6) (qa_nil))))) (qss_cons (qs_set (i := 9) sc_law.nd rfl (by first | exact .inl rfl | exact .inr rfl) (qe_ty cq_tuple (by rfl) T.b_tuple (by decide +kernel) (qa_cons (qn_pure (qn_lc (own := [("_law_number", 12)]) rfl sc_law.nd (qi_seq (qv 7)) (blkOk_by (own := [("_law_number", 12)]) (N := nm_law) (sc := defScope s_law) (by decide +kernel)) (fun _ _ _ _ _ => qb_nm (i := 12) sc_law.nd rfl (by first | exact .inl rfl | exact .inr rfl)) (fun _ _ _ _ _ => qts_nil) (fun _ _ _ _ _ => qe_ix iq_seq (qe_ix iq_seq (qv 8) (qe_op oq_mod (qv 12) (qe_cb cq_len (by rfl) T.b_len (by decide +kernel) (qa_cons (qv 8) (qa_nil))))) (qe_int)))) (qa_nil)))) (qss_cons (qs_set (i := 10) sc_law.nd rfl (by first | exact .inl rfl | exact .inr rfl) (qe_cb (cq_reprD hgd hr.units) (by rfl) T.b_repr (by decide +kernel) (qa_cons (qn_pure (qn_lst (qa_cons (qv 3) (qa_cons (qv 7) (qa_cons (qv 6) (qa_nil)))))) (qa_nil)))) (qss_cons (qs_if (qt_w (qw_or (qt_cmp (oq_neS hr.units) (qe_cb (cq_reprD hgd hr.units) (by rfl) T.b_repr (by decide +kernel) (qa_cons (qe_call (ok_shown T) (hr.mono (by decide)) (by rfl) (qa_cons (qv 3) (qa_cons (qv 7) (qa_cons (qv 6) (qa_nil))))) (qa_nil))) (qe_cb (cq_reprD hgd hr.units) (by rfl) T.b_repr (by decide +kernel) (qa_cons (qv 9) (qa_nil)))) (qw_or1 (qt_cmp (oq_neS hr.units) (qe_cb (cq_reprD hgd hr.units) (by rfl) T.b_repr (by decide +kernel) (qa_cons (qn_pure (qn_lst (qa_cons (qv 3) (qa_cons (qv 7) (qa_cons (qv 6) (qa_nil)))))) (qa_nil))) (qv 10))))) (qss_one (qs_ret (qe_bl))) (qss_nil)) (qss_cons (qs_set (i := 11) sc_law.nd rfl (by first | exact .inl rfl | exact .inr rfl) (qe_call (ok_shown T) (hr.mono (by decide)) (by rfl) (qa_cons (qv 3) (qa_cons (qv 7) (qa_cons (qe_call (ok__law_sum T) (hr.mono (by decide)) (by rfl) (qa_cons (qe_ix iq_seq (qv 3) (qe_int)) (qa_cons (qv 6) (qa_cons (qv 4) (qa_nil))))) (qa_nil)))))) (qss_cons (qs_if (qt_cmp (oq_neS hr.units) (qv 11) (qe_call (ok__law_sum T) (hr.mono (by decide)) (by rfl) (qa_cons (qe_ix iq_seq (qv 3) (qe_int)) (qa_cons (qv 9) (qa_cons (qe_call (ok_shown T) (hr.mono (by decide)) (by rfl) (qa_cons (qv 3) (qa_cons (qv 7) (qa_cons (qv 4) (qa_nil))))) (qa_nil)))))) (qss_one (qs_ret (qe_bl))) (qss_nil)) (qss_cons (qs_if (qt_cmp (oq_neS hr.units) (qe_cb (cq_reprD hgd hr.units) (by rfl) T.b_repr (by decide +kernel) (qa_cons (qe_call (ok_shown T) (hr.mono (by decide)) (by rfl) (qa_cons (qv 3) (qa_cons (qv 7) (qa_cons (qv 6) (qa_nil))))) (qa_nil))) (qe_cb (cq_reprD hgd hr.units) (by rfl) T.b_repr (by decide +kernel) (qa_cons (qv 9) (qa_nil)))) (qss_one (qs_ret (qe_bl))) (qss_nil)) (qss_one (qs_set (i := 4) sc_law.nd rfl (by first | exact .inl rfl | exact .inr rfl) (qv 6))))))))))))))))) (qss_one (qs_ret (qe_bl)))
theorem rd_law : ∀ ds S Q, sp_law ds S Q → t_law { nx := fun _ S' => Fin3 S Q (.p .none) S', rt := Fin3 S Q } (env0 13 ds) S := by
  rintro _ S Q ⟨ns, rfl, hl, rfl, q⟩
  unfold t_law
  walk_at "rd"
  refine ⟨by constructor <;> (repeat split) <;> omega, ?_⟩
  refine ⟨fun i e s => s = [] ∧ e = [some (.p (.list (ns.map PyData.int))), none, none, none, none, none, none, none, none, none, none, none, none], ⟨rfl, rfl⟩, fun _ _ _ _ => trivial, ?_, ?_⟩
  · rintro i d e s hd ⟨rfl, rfl⟩
    obtain ⟨hi, rfl⟩ := rng_get hd
    unfold t_law_b1 sp__law_hand sp__law_machine sp__law_state
    walk_at "rd"
    have hi2 : i < 5 := by
      have : (if (if (4 : Int) < (ns.length : Int) then (4 : Int) else (ns.length : Int)) > 1 then (if (4 : Int) < (ns.length : Int) then (4 : Int) else (ns.length : Int)) else 1) ≤ 4 := by (repeat split) <;> omega
      omega
    refine ⟨ns, _, rfl, hl, by omega, by omega, fun S0 hd0 _ hlen => ?_⟩
    try simp only [List.length_nil, Nat.zero_add] at hd0 hlen
    refine ⟨0, 0, rfl, hd0, by decide, fun k taps S1 M t1 hd1 => ?_⟩
    refine ⟨0, _, k, taps, rfl, M, hd1, by decide, fun last0 Sa hlast0 ta hda => ?_⟩
    walk_at "rd"
    refine ⟨fun t e s => ∃ (last : List Int) (z5 z6 z7 z8 z9 z10 z11 : Option D), Sta k taps last ∧ HdTo 0 S0 s ∧ HdB s 0 (31 + 81 * t) ∧ e = [some (.p (.list (ns.map PyData.int))), some (.p (.int (0 + (i : Nat)))), some (.loc 0), some (.p (mach k taps)), some (.p (tupI last)), z5, z6, z7, z8, z9, z10, z11, none], ⟨last0, none, none, none, none, none, none, none, hlast0, t1.trans ta, hda.le (by omega), rfl⟩, fun _ _ _ _ => trivial, ?_, ?_⟩
    · rintro i' d e s hd' ⟨last, z5, z6, z7, z8, z9, z10, z11, hlast, ts, hds, rfl⟩
      obtain ⟨hi', rfl⟩ := rng_get hd'
      have hi3 : i' < 3 := by simpa using hi'
      unfold t_law_b2 sp__law_state sp__law_pattern sp__law_round sp_shown sp__law_sum
      walk_at "rd"
      refine ⟨0, _, k, taps, rfl, M, hds, by omega, fun st S2 hst t2 hd2 => ?_⟩
      refine ⟨0, _, rfl, hd2, by omega, fun pat S3 hpl hpb t3 hd3 => ?_⟩
      obtain ⟨p, P⟩ := per_ex M hst
      have hp0 := P.pos
      have hmp := M.pos
      have tt := (ts.trans t2).trans t3
      refine ⟨k, taps, st, p, rfl, M, hst, P, ?_⟩
      generalize hpt : tupI (patI pat) = pt
      have hpt' : pt = .tuple ((patI pat).map PyData.int) := by rw [← hpt]; rfl
      subst hpt'
      walk_at "rd"
      refine ⟨fun i acc s => s = S3 ∧ acc = ((seen k taps pat st).take i).map PyData.int, ⟨rfl, rfl⟩, fun _ _ _ _ => trivial, ?_, ?_⟩
      · rintro i d acc s hd ⟨rfl, rfl⟩
        unfold patI at hd
        rw [List.getElem?_map, List.getElem?_map] at hd
        obtain ⟨x, hx, rfl⟩ := Option.map_eq_some_iff.mp hd
        obtain ⟨n, hn, rfl⟩ := Option.map_eq_some_iff.mp hx
        have hm : (n : Int) % (p : Int) = ((n % p : Nat) : Int) := rfl
        walk_at "rd"
        simp only [List.length_range, hm, show atI ((List.range p).map fun j => tupI (itr k taps j st)) ((n % p : Nat) : Int) = some (tupI (itr k taps n st)) from atI_nat (by rw [List.getElem?_map, List.getElem?_range (Nat.mod_lt _ hp0), ← P.mod n]; rfl)]
        unfold tupI
        walk_at "rd"
        simp only [List.getElem?_map, hdI_get ((hst.itr M n).ne M), Option.map_some]
        have e : (seen k taps pat st)[i]? = some (hdI (itr k taps n st)) := by
          unfold seen
          rw [List.getElem?_map, hn]
          rfl
        refine ⟨by omega, ?_⟩
        rw [take_one e]
        simp
      · rintro acc s ⟨rfl, rfl⟩
        have e9 : List.take (patI pat).length (seen k taps pat st) = seen k taps pat st := List.take_of_length_le (by
          rw [seen_len]
          unfold patI
          rw [List.length_map]
          exact Nat.le_refl _)
        simp only [e9]
        have rb := (three_shows M hst hpb hpl).repr (by decide) (by decide)
        have rs := (seen_shows M hst hpl).repr (by decide) (by decide)
        have hsum := sumL_sta M hst hlast
        refine ⟨rb, k, taps, st, pat, rfl, M, hst, rs, rs, ?_⟩
        rw [if_neg (fun h => h rfl)]
        refine ⟨rb, ?_⟩
        unfold mach
        walk_at "rd"
        refine ⟨k, st, last, rfl, hmp.1, k, taps, sumL k st last, pat, rfl, M, hsum, k, taps, last, pat, rfl, M, hlast, k, seen k taps pat st, seen k taps pat last, rfl, hmp.1, ?_⟩
        rw [← seen_sum M hst hlast]
        have ss := seen_shows M hsum hpl
        have sh := ss.shaped (by decide)
        have ev := eqv_self _ ss.lay
        unfold tupI at sh ev ⊢
        walk_at "rd"
        simp only [sh, ev]
        walk_at "rd"
        refine ⟨k, taps, st, pat, rfl, M, hst, rs, rs, ?_⟩
        rw [if_neg (fun h => h rfl)]
        exact wk_self ⟨st, _, _, _, _, _, _, _, hst, tt, hd3.le (by omega), rfl⟩
    · rintro e s ⟨last, z5, z6, z7, z8, z9, z10, z11, hlast, ts, hds, rfl⟩
      exact .inr ⟨0, _, Nat.le_refl _, .keep (.drop (.drop (.drop (.drop (.drop (.drop (.drop (.drop (.drop (.drop (.drop (.drop .nil)))))))))))), by rw [List.take_zero], rfl⟩
  · rintro e s ⟨rfl, rfl⟩
    exact fin_p (q _)
theorem ok_law (T : Txt K mg) : Ok3G P w K mg base 4 "law" sp_law := by
  obtain ⟨f, fd, F, hm, hb⟩ := T.f_law
  exact Ok3G.mk' F hm hb sc_law (fun ds S Q h => by simp only [sp_law] at h; first | (obtain ⟨rfl, _⟩ := h; rfl) | (obtain ⟨_, rfl, _⟩ := h; rfl) | (obtain ⟨_, _, rfl, _⟩ := h; rfl) | (obtain ⟨_, _, _, rfl, _⟩ := h; rfl) | (obtain ⟨_, _, _, _, rfl, _⟩ := h; rfl) | (obtain ⟨_, _, _, _, _, rfl, _⟩ := h; rfl) | (obtain ⟨_, _, _, _, _, _, rfl, _⟩ := h; rfl) | exact h.2) (fun cdv A outer s H E hgd hr => dv_law T hgd hr) rd_law
end
theorem all_mk {l : PySem.W.OpenLaw} {w : World} {K : PySem.W.Frag} {h : Heap} {mg : Str → Option Value} {fa : Addr} (X : K.In h) (G : h.Ns mainGlobals mg) (hfa : mg "law" = some (.ref fa))
    {f0 : Addr} {od0 an0 : Option Addr} {sl0 : Array (Option Value)} {oc0 kV0 dc0 pm0 cd0 ct0 : Value} (a0 : PySem.W.nsIn K mainGlobals "one_step" = some (some (.ref f0))) (l0 : K.lookup f0 = some ⟨oc0, od0, .func (PySem.W.fnOf "one_step" "one_step" (defArgs s_one_step) (defBody s_one_step) (defScope s_one_step) .none kV0 dc0 pm0 an0 cd0 ct0), sl0⟩) (c0 : PySem.W.codeIn K cd0 "one_step" = true) (k0 : PySem.W.keepIn K (.ref f0) = true)
    {f1 : Addr} {od1 an1 : Option Addr} {sl1 : Array (Option Value)} {oc1 kV1 dc1 pm1 cd1 ct1 : Value} (a1 : PySem.W.nsIn K mainGlobals "round_of" = some (some (.ref f1))) (l1 : K.lookup f1 = some ⟨oc1, od1, .func (PySem.W.fnOf "round_of" "round_of" (defArgs s_round_of) (defBody s_round_of) (defScope s_round_of) .none kV1 dc1 pm1 an1 cd1 ct1), sl1⟩) (c1 : PySem.W.codeIn K cd1 "round_of" = true) (k1 : PySem.W.keepIn K (.ref f1) = true)
    {f2 : Addr} {od2 an2 : Option Addr} {sl2 : Array (Option Value)} {oc2 kV2 dc2 pm2 cd2 ct2 : Value} (a2 : PySem.W.nsIn K mainGlobals "shown" = some (some (.ref f2))) (l2 : K.lookup f2 = some ⟨oc2, od2, .func (PySem.W.fnOf "shown" "shown" (defArgs s_shown) (defBody s_shown) (defScope s_shown) .none kV2 dc2 pm2 an2 cd2 ct2), sl2⟩) (c2 : PySem.W.codeIn K cd2 "shown" = true) (k2 : PySem.W.keepIn K (.ref f2) = true)
    {f3 : Addr} {od3 an3 : Option Addr} {sl3 : Array (Option Value)} {oc3 kV3 dc3 pm3 cd3 ct3 : Value} (a3 : PySem.W.nsIn K mainGlobals "_law_hand" = some (some (.ref f3))) (l3 : K.lookup f3 = some ⟨oc3, od3, .func (PySem.W.fnOf "_law_hand" "_law_hand" (defArgs s__law_hand) (defBody s__law_hand) (defScope s__law_hand) .none kV3 dc3 pm3 an3 cd3 ct3), sl3⟩) (c3 : PySem.W.codeIn K cd3 "_law_hand" = true) (k3 : PySem.W.keepIn K (.ref f3) = true)
    {f4 : Addr} {od4 an4 : Option Addr} {sl4 : Array (Option Value)} {oc4 kV4 dc4 pm4 cd4 ct4 : Value} (a4 : PySem.W.nsIn K mainGlobals "_law_take" = some (some (.ref f4))) (l4 : K.lookup f4 = some ⟨oc4, od4, .func (PySem.W.fnOf "_law_take" "_law_take" (defArgs s__law_take) (defBody s__law_take) (defScope s__law_take) .none kV4 dc4 pm4 an4 cd4 ct4), sl4⟩) (c4 : PySem.W.codeIn K cd4 "_law_take" = true) (k4 : PySem.W.keepIn K (.ref f4) = true)
    {f5 : Addr} {od5 an5 : Option Addr} {sl5 : Array (Option Value)} {oc5 kV5 dc5 pm5 cd5 ct5 : Value} (a5 : PySem.W.nsIn K mainGlobals "_law_pick" = some (some (.ref f5))) (l5 : K.lookup f5 = some ⟨oc5, od5, .func (PySem.W.fnOf "_law_pick" "_law_pick" (defArgs s__law_pick) (defBody s__law_pick) (defScope s__law_pick) .none kV5 dc5 pm5 an5 cd5 ct5), sl5⟩) (c5 : PySem.W.codeIn K cd5 "_law_pick" = true) (k5 : PySem.W.keepIn K (.ref f5) = true)
    {f6 : Addr} {od6 an6 : Option Addr} {sl6 : Array (Option Value)} {oc6 kV6 dc6 pm6 cd6 ct6 : Value} (a6 : PySem.W.nsIn K mainGlobals "_law_machine" = some (some (.ref f6))) (l6 : K.lookup f6 = some ⟨oc6, od6, .func (PySem.W.fnOf "_law_machine" "_law_machine" (defArgs s__law_machine) (defBody s__law_machine) (defScope s__law_machine) .none kV6 dc6 pm6 an6 cd6 ct6), sl6⟩) (c6 : PySem.W.codeIn K cd6 "_law_machine" = true) (k6 : PySem.W.keepIn K (.ref f6) = true)
    {f7 : Addr} {od7 an7 : Option Addr} {sl7 : Array (Option Value)} {oc7 kV7 dc7 pm7 cd7 ct7 : Value} (a7 : PySem.W.nsIn K mainGlobals "_law_step" = some (some (.ref f7))) (l7 : K.lookup f7 = some ⟨oc7, od7, .func (PySem.W.fnOf "_law_step" "_law_step" (defArgs s__law_step) (defBody s__law_step) (defScope s__law_step) .none kV7 dc7 pm7 an7 cd7 ct7), sl7⟩) (c7 : PySem.W.codeIn K cd7 "_law_step" = true) (k7 : PySem.W.keepIn K (.ref f7) = true)
    {f8 : Addr} {od8 an8 : Option Addr} {sl8 : Array (Option Value)} {oc8 kV8 dc8 pm8 cd8 ct8 : Value} (a8 : PySem.W.nsIn K mainGlobals "_law_round" = some (some (.ref f8))) (l8 : K.lookup f8 = some ⟨oc8, od8, .func (PySem.W.fnOf "_law_round" "_law_round" (defArgs s__law_round) (defBody s__law_round) (defScope s__law_round) .none kV8 dc8 pm8 an8 cd8 ct8), sl8⟩) (c8 : PySem.W.codeIn K cd8 "_law_round" = true) (k8 : PySem.W.keepIn K (.ref f8) = true)
    {f9 : Addr} {od9 an9 : Option Addr} {sl9 : Array (Option Value)} {oc9 kV9 dc9 pm9 cd9 ct9 : Value} (a9 : PySem.W.nsIn K mainGlobals "_law_state" = some (some (.ref f9))) (l9 : K.lookup f9 = some ⟨oc9, od9, .func (PySem.W.fnOf "_law_state" "_law_state" (defArgs s__law_state) (defBody s__law_state) (defScope s__law_state) .none kV9 dc9 pm9 an9 cd9 ct9), sl9⟩) (c9 : PySem.W.codeIn K cd9 "_law_state" = true) (k9 : PySem.W.keepIn K (.ref f9) = true)
    {f10 : Addr} {od10 an10 : Option Addr} {sl10 : Array (Option Value)} {oc10 kV10 dc10 pm10 cd10 ct10 : Value} (a10 : PySem.W.nsIn K mainGlobals "_law_pattern" = some (some (.ref f10))) (l10 : K.lookup f10 = some ⟨oc10, od10, .func (PySem.W.fnOf "_law_pattern" "_law_pattern" (defArgs s__law_pattern) (defBody s__law_pattern) (defScope s__law_pattern) .none kV10 dc10 pm10 an10 cd10 ct10), sl10⟩) (c10 : PySem.W.codeIn K cd10 "_law_pattern" = true) (k10 : PySem.W.keepIn K (.ref f10) = true)
    {f11 : Addr} {od11 an11 : Option Addr} {sl11 : Array (Option Value)} {oc11 kV11 dc11 pm11 cd11 ct11 : Value} (a11 : PySem.W.nsIn K mainGlobals "_law_sum" = some (some (.ref f11))) (l11 : K.lookup f11 = some ⟨oc11, od11, .func (PySem.W.fnOf "_law_sum" "_law_sum" (defArgs s__law_sum) (defBody s__law_sum) (defScope s__law_sum) .none kV11 dc11 pm11 an11 cd11 ct11), sl11⟩) (c11 : PySem.W.codeIn K cd11 "_law_sum" = true) (k11 : PySem.W.keepIn K (.ref f11) = true)
    {f12 : Addr} {od12 an12 : Option Addr} {sl12 : Array (Option Value)} {oc12 kV12 dc12 pm12 cd12 ct12 : Value} (a12 : PySem.W.nsIn K mainGlobals "law" = some (some (.ref f12))) (l12 : K.lookup f12 = some ⟨oc12, od12, .func (PySem.W.fnOf "law" "law" (defArgs s_law) (defBody s_law) (defScope s_law) .none kV12 dc12 pm12 an12 cd12 ct12), sl12⟩) (c12 : PySem.W.codeIn K cd12 "law" = true) (k12 : PySem.W.keepIn K (.ref f12) = true)
    (z_int : PySem.W.nsIn K mainGlobals "int" = some none)
    (z_len : PySem.W.nsIn K mainGlobals "len" = some none)
    (z_max : PySem.W.nsIn K mainGlobals "max" = some none)
    (z_min : PySem.W.nsIn K mainGlobals "min" = some none)
    (z_range : PySem.W.nsIn K mainGlobals "range" = some none)
    (z_repr : PySem.W.nsIn K mainGlobals "repr" = some none)
    (z_sum : PySem.W.nsIn K mainGlobals "sum" = some none)
    (z_tuple : PySem.W.nsIn K mainGlobals "tuple" = some none)
    (z_zip : PySem.W.nsIn K mainGlobals "zip" = some none)
    : ∃ fd : FuncData, (∀ (s : Shared) (v : Value), BindsTo s fd ⟨[v], []⟩ [("_law_script", v)]) ∧ ∀ base : Heap, K.In base → base.Ns mainGlobals mg → FnG l.prog w K mg base 4 fa fd ["_law_script"] (fun vs H Q _ => lowC K sp_law vs H Q) := by
  have e := hfa.symm.trans (PySem.W.mg_of X G a12)
  cases e
  have F0 := fun_mk (st := s_one_step) l0 c0 k0
  have B0 := F0.binds (ps := ["machine", "state"]) fun _ _ _ _ _ _ us hl => match us, hl with | [_, _], _ => rfl
  have F1 := fun_mk (st := s_round_of) l1 c1 k1
  have B1 := F1.binds (ps := ["machine", "state"]) fun _ _ _ _ _ _ us hl => match us, hl with | [_, _], _ => rfl
  have F2 := fun_mk (st := s_shown) l2 c2 k2
  have B2 := F2.binds (ps := ["machine", "pattern", "state"]) fun _ _ _ _ _ _ us hl => match us, hl with | [_, _, _], _ => rfl
  have F3 := fun_mk (st := s__law_hand) l3 c3 k3
  have B3 := F3.binds (ps := ["_law_script", "_law_k"]) fun _ _ _ _ _ _ us hl => match us, hl with | [_, _], _ => rfl
  have F4 := fun_mk (st := s__law_take) l4 c4 k4
  have B4 := F4.binds (ps := ["_law_hand_here", "_law_many"]) fun _ _ _ _ _ _ us hl => match us, hl with | [_, _], _ => rfl
  have F5 := fun_mk (st := s__law_pick) l5 c5 k5
  have B5 := F5.binds (ps := ["_law_hand_here", "_law_some"]) fun _ _ _ _ _ _ us hl => match us, hl with | [_, _], _ => rfl
  have F6 := fun_mk (st := s__law_machine) l6 c6 k6
  have B6 := F6.binds (ps := ["_law_hand_here"]) fun _ _ _ _ _ _ us hl => match us, hl with | [_], _ => rfl
  have F7 := fun_mk (st := s__law_step) l7 c7 k7
  have B7 := F7.binds (ps := ["_law_machine_here", "_law_state_here"]) fun _ _ _ _ _ _ us hl => match us, hl with | [_, _], _ => rfl
  have F8 := fun_mk (st := s__law_round) l8 c8 k8
  have B8 := F8.binds (ps := ["_law_machine_here", "_law_state_here"]) fun _ _ _ _ _ _ us hl => match us, hl with | [_, _], _ => rfl
  have F9 := fun_mk (st := s__law_state) l9 c9 k9
  have B9 := F9.binds (ps := ["_law_hand_here", "_law_machine_here"]) fun _ _ _ _ _ _ us hl => match us, hl with | [_, _], _ => rfl
  have F10 := fun_mk (st := s__law_pattern) l10 c10 k10
  have B10 := F10.binds (ps := ["_law_hand_here", "_law_most"]) fun _ _ _ _ _ _ us hl => match us, hl with | [_, _], _ => rfl
  have F11 := fun_mk (st := s__law_sum) l11 c11 k11
  have B11 := F11.binds (ps := ["_law_k", "_law_one", "_law_other"]) fun _ _ _ _ _ _ us hl => match us, hl with | [_, _, _], _ => rfl
  have F12 := fun_mk (st := s_law) l12 c12 k12
  have B12 := F12.binds (ps := ["_law_script"]) fun _ _ _ _ _ _ us hl => match us, hl with | [_], _ => rfl
  have T : Txt K mg := { b_int := PySem.W.mg_none_of X G z_int, b_len := PySem.W.mg_none_of X G z_len, b_max := PySem.W.mg_none_of X G z_max, b_min := PySem.W.mg_none_of X G z_min, b_range := PySem.W.mg_none_of X G z_range, b_repr := PySem.W.mg_none_of X G z_repr, b_sum := PySem.W.mg_none_of X G z_sum, b_tuple := PySem.W.mg_none_of X G z_tuple, b_zip := PySem.W.mg_none_of X G z_zip, f_one_step := ⟨_, _, F0, PySem.W.mg_of X G a0, B0⟩, f_round_of := ⟨_, _, F1, PySem.W.mg_of X G a1, B1⟩, f_shown := ⟨_, _, F2, PySem.W.mg_of X G a2, B2⟩, f__law_hand := ⟨_, _, F3, PySem.W.mg_of X G a3, B3⟩, f__law_take := ⟨_, _, F4, PySem.W.mg_of X G a4, B4⟩, f__law_pick := ⟨_, _, F5, PySem.W.mg_of X G a5, B5⟩, f__law_machine := ⟨_, _, F6, PySem.W.mg_of X G a6, B6⟩, f__law_step := ⟨_, _, F7, PySem.W.mg_of X G a7, B7⟩, f__law_round := ⟨_, _, F8, PySem.W.mg_of X G a8, B8⟩, f__law_state := ⟨_, _, F9, PySem.W.mg_of X G a9, B9⟩, f__law_pattern := ⟨_, _, F10, PySem.W.mg_of X G a10, B10⟩, f__law_sum := ⟨_, _, F11, PySem.W.mg_of X G a11, B11⟩, f_law := ⟨_, _, F12, PySem.W.mg_of X G a12, B12⟩ }
  refine ⟨PySem.W.fnOf "law" "law" (defArgs s_law) (defBody s_law) (defScope s_law) .none kV12 dc12 pm12 an12 cd12 ct12, fun s v => .of_eq rfl, fun base _ _ => ?_⟩
  exact Ok3G.fnG F12 B12 sc_law (fun ds S Q h => by simp only [sp_law] at h; first | (obtain ⟨_, rfl, _⟩ := h; rfl) | exact h.2) (fun cdv A outer s H E hgd hr => dv_law T hgd hr) rd_law
end G_k56
open PySem PySem.W PyProof.Rows
set_option maxHeartbeats 0 in
theorem PySem.Challenge.cw_windowfloor_k56_shown_holds : PySem.Challenge.rw_windowfloor_k56_shown.Holds := by
  w_on; o_law; k_head; (case hw => w_witness2)
  k_fill
  refine L3.walk_ofG (l := PySem.Challenge.rw_windowfloor_k56_shown) (n := 63) (k := 4) (x := "_law_script") (sp := fun w => fun vs H Q _ => L3.lowC _ G_k56.sp_law vs H Q) rfl (by decide) rfl ⟨rfl, by decide, by decide⟩ (fun w h Y => PySem.W.kIn_of Y) ?F (fun _ _ a ns hl _ hS => L3.law_in hl hS fun _ => rfl)
  case F =>
    intro w mg fa h KX G hmg
    refine' G_k56.all_mk KX G hmg ?a0 ?l0 ?c0 ?k0 ?a1 ?l1 ?c1 ?k1 ?a2 ?l2 ?c2 ?k2 ?a3 ?l3 ?c3 ?k3 ?a4 ?l4 ?c4 ?k4 ?a5 ?l5 ?c5 ?k5 ?a6 ?l6 ?c6 ?k6 ?a7 ?l7 ?c7 ?k7 ?a8 ?l8 ?c8 ?k8 ?a9 ?l9 ?c9 ?k9 ?a10 ?l10 ?c10 ?k10 ?a11 ?l11 ?c11 ?k11 ?a12 ?l12 ?c12 ?k12 ?z_int ?z_len ?z_max ?z_min ?z_range ?z_repr ?z_sum ?z_tuple ?z_zip
    (case a0 => k_is); (case l0 => k_is); (case c0 => k_is); (case k0 => k_is); (case a1 => k_is); (case l1 => k_is); (case c1 => k_is); (case k1 => k_is); (case a2 => k_is); (case l2 => k_is); (case c2 => k_is); (case k2 => k_is); (case a3 => k_is); (case l3 => k_is); (case c3 => k_is); (case k3 => k_is); (case a4 => k_is); (case l4 => k_is); (case c4 => k_is); (case k4 => k_is); (case a5 => k_is); (case l5 => k_is); (case c5 => k_is); (case k5 => k_is); (case a6 => k_is); (case l6 => k_is); (case c6 => k_is); (case k6 => k_is); (case a7 => k_is); (case l7 => k_is); (case c7 => k_is); (case k7 => k_is); (case a8 => k_is); (case l8 => k_is); (case c8 => k_is); (case k8 => k_is); (case a9 => k_is); (case l9 => k_is); (case c9 => k_is); (case k9 => k_is); (case a10 => k_is); (case l10 => k_is); (case c10 => k_is); (case k10 => k_is); (case a11 => k_is); (case l11 => k_is); (case c11 => k_is); (case k11 => k_is); (case a12 => k_is); (case l12 => k_is); (case c12 => k_is); (case k12 => k_is); (case z_int => k_is); (case z_len => k_is); (case z_max => k_is); (case z_min => k_is); (case z_range => k_is); (case z_repr => k_is); (case z_sum => k_is); (case z_tuple => k_is); (case z_zip => k_is)
