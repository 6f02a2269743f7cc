import PyProof.Rows.All
import Wide.All
import OpenK.AllK
import Wide.FinOn
import HandS.ForMost
import HandS.Wide
import HandS.Deep
import HandS.IsInst
import HandS.TupAny
import HandS.TupMul
import HandS.Zip
import HandS.Rev
import HandS.RevRange
import HandS.Style
import HandS.Conv
import HandS.Flow
import HandS.SortInts
import PySem.Challenge.RW_windowfloor_k38_meetings
set_option Elab.async false
set_option linter.all false
set_option maxRecDepth 100000
set_option maxHeartbeats 4000000
/-! A layer over L2 (HandS): values as trees, a store of own lists and dicts; readings without addresses. -/
namespace L3
open PySem PySem.Spec PyProof.Rows L2

/-! ### data, stores -/
inductive D where
  | p (d : PyData)
  | loc (n : Nat)
inductive O3 where
  | lst (ds : List PyData)
  | dic (kvs : List (List Key × PyData))
structure W3 where
  al : List Addr
  h : Hp
  pn : List (Addr × HO)
abbrev E3 := List (Option D)
abbrev S3 := List (Option O3)
def at3 : E3 → Nat → Option D
  | [], _ => none
  | x :: _, 0 => x
  | _ :: r, n + 1 => at3 r n
def set3 : E3 → Nat → D → E3
  | [], _, _ => []
  | _ :: r, 0, d => some d :: r
  | x :: r, n + 1, d => x :: set3 r n d
theorem at3_get : ∀ (env : E3) (i : Nat), at3 env i = (env[i]?).join
  | [], _ => rfl
  | x :: _, 0 => rfl
  | _ :: r, n + 1 => by
    rw [List.getElem?_cons_succ]
    exact at3_get r n
theorem set3_length : ∀ (env : E3) (i : Nat) (d : D), (set3 env i d).length = env.length
  | [], _, _ => rfl
  | _ :: _, 0, _ => rfl
  | _ :: r, n + 1, d => congrArg (· + 1) (set3_length r n d)
theorem at3_set : ∀ (env : E3) (i j : Nat) (d : D), at3 (set3 env i d) j = if j = i ∧ i < env.length then some d else at3 env j
  | [], i, j, d => by simp [set3, at3]
  | x :: r, 0, 0, d => by simp [set3, at3]
  | x :: r, 0, j + 1, d => by simp [set3, at3]
  | x :: r, i + 1, 0, d => by simp [set3, at3]
  | x :: r, i + 1, j + 1, d => by
    show at3 (set3 r i d) j = _
    rw [at3_set r i j d]
    simp only [List.length_cons, Nat.add_right_cancel_iff, Nat.add_lt_add_iff_right]
    rfl

/-! ### what a value stands for -/
section
variable (K : PySem.W.Frag)
def RepD (w : W3) (v : V) : D → Prop
  | .p d => Dp K w.h v d
  | .loc n => ∃ a, w.al[n]? = some a ∧ v = .ref a
def RepDs (w : W3) : List V → List D → Prop
  | [], [] => True
  | v :: vs, d :: ds => RepD K w v d ∧ RepDs w vs ds
  | _, _ => False
def RepO (w : W3) (u : HO) : O3 → Prop
  | .lst ds => ∃ xs, u = .lst xs ∧ DpAll K w.h xs ds ∧ ds.length ≤ sizeLine
  | .dic kvs => ∃ kxs, u = .dT kxs ∧ Paired (fun (p : List Key × V) (q : List Key × PyData) => p.1 = q.1 ∧ Dp K w.h p.2 q.2) kxs kvs
def SzO : HO → Prop
  | .lst xs => xs.length ≤ sizeLine
  | .tup xs => xs.length ≤ sizeLine
  | .frz _ (.lst xs) => xs.length ≤ sizeLine
  | .frz _ (.tup xs) => xs.length ≤ sizeLine
  | .frz _ _ => False
  | _ => True
structure Ex0 (w w' : W3) : Prop where
  al : ∃ t, w'.al = w.al ++ t
  h : Same w.h w'.h
structure Ex3 (w w' : W3) : Prop extends Ex0 w w' where
  pn : w'.pn = w.pn
structure Rel3 (w : W3) (H : Hp) (S : List (Option O3)) : Prop where
  sub : Same w.h H
  sz : ∀ a u, w.h a = some u → SzO u
  len : w.al.length = S.length
  live : ∀ (n : Nat) (a : Addr) (o : O3), w.al[n]? = some a → S[n]? = some (some o) → w.h a = none ∧ ∃ u, H a = some u ∧ RepO K w u o
  dead : ∀ (n : Nat) (a : Addr), w.al[n]? = some a → S[n]? = some none → ∃ u, w.h a = some u
  nd : w.al.Nodup
  pin : ∀ (a : Addr) (u : HO), (a, u) ∈ w.pn → H a = some u ∧ w.h a = none ∧ a ∉ w.al
  pnd : (w.pn.map (·.1)).Nodup
def EnvR (w : W3) (σ : L2.St) (env : E3) : Prop := σ.length = env.length ∧ ∀ i d, at3 env i = some d → ∃ v, σ[i]? = some (some v) ∧ RepD K w v d
end

theorem Same.sqT {K : PySem.W.Frag} {H H' : Hp} {a : Addr} {xs : List V} (e : Same H H') (h : SqT K H a xs) : SqT K H' a xs := by
  rcases h with (h | ⟨o, h⟩) | h
  · exact .inl (.inl (e _ _ h))
  · exact .inl (.inr ⟨o, e _ _ h⟩)
  · exact .inr h
mutual
theorem dp_mono {K : PySem.W.Frag} {H H' : Hp} (e : Same H H') : ∀ (d : PyData) (v : V), Dp K H v d → Dp K H' v d
  | .none, _, h => by cases h; exact .non
  | .bool b, _, h => by cases h; exact .bl b
  | .int i, _, h => by cases h; exact .int i
  | .str x, _, h => by cases h; exact .str x
  | .list ds, _, h => by
    cases h with
    | lst hs ha => exact .lst (L2.Same.seq e hs) (dpAll_mono e ds _ ha)
  | .tuple ds, _, h => by
    cases h with
    | tup hs ha => exact .tup (Same.sqT e hs) (dpAll_mono e ds _ ha)
  | .dict _, _, h => by cases h
theorem dpAll_mono {K : PySem.W.Frag} {H H' : Hp} (e : Same H H') : ∀ (ds : List PyData) (vs : List V), DpAll K H vs ds → DpAll K H' vs ds
  | [], _, h => by cases h; exact .nil
  | d :: ds, _, h => by
    cases h with
    | cons h1 h2 => exact .cons (dp_mono e d _ h1) (dpAll_mono e ds _ h2)
end
section
variable {K : PySem.W.Frag} {w w' w'' : W3} {H : Hp} {S : S3} {σ : L2.St} {env : E3} {v : V} {d : D}
theorem DpAll.length : ∀ {vs : List V} {ds : List PyData} {h : Hp}, DpAll K h vs ds → vs.length = ds.length
  | _, _, _, .nil => rfl
  | _, _, _, .cons _ t => congrArg (· + 1) (DpAll.length t)
theorem DpAll.get : ∀ {vs : List V} {ds : List PyData} {h : Hp} {i : Nat} {x : PyData}, DpAll K h vs ds → ds[i]? = some x → ∃ v, vs[i]? = some v ∧ Dp K h v x
  | _, _, _, _, _, .nil, e => by simp at e
  | _, _, _, 0, _, .cons r _, e => by
    simp at e
    subst e
    exact ⟨_, rfl, r⟩
  | _, _, _, i + 1, x, .cons _ t, e => by
    obtain ⟨v, h1, h2⟩ := DpAll.get (i := i) (x := x) t (by simpa using e)
    exact ⟨v, by simpa using h1, h2⟩
theorem DpAll.getV : ∀ {vs : List V} {ds : List PyData} {h : Hp} {i : Nat} {v : V}, DpAll K h vs ds → vs[i]? = some v → ∃ x, ds[i]? = some x ∧ Dp K h v x
  | _, _, _, _, _, .nil, e => by simp at e
  | _, _, _, 0, _, .cons r _, e => by
    simp at e
    subst e
    exact ⟨_, rfl, r⟩
  | _, _, _, i + 1, v, .cons _ t, e => by
    obtain ⟨x, h1, h2⟩ := DpAll.getV (i := i) (v := v) t (by simpa using e)
    exact ⟨x, by simpa using h1, h2⟩
theorem DpAll.append : ∀ {vs us : List V} {ds es : List PyData} {h : Hp}, DpAll K h vs ds → DpAll K h us es → DpAll K h (vs ++ us) (ds ++ es)
  | _, _, _, _, _, .nil, s => s
  | _, _, _, _, _, .cons r t, s => .cons r (DpAll.append t s)
theorem DpAll.take : ∀ {vs : List V} {ds : List PyData} {h : Hp} (n : Nat), DpAll K h vs ds → DpAll K h (vs.take n) (ds.take n)
  | _, _, _, 0, _ => .nil
  | _, _, _, _ + 1, .nil => .nil
  | _, _, _, n + 1, .cons r t => .cons r (DpAll.take n t)
theorem DpAll.drop : ∀ {vs : List V} {ds : List PyData} {h : Hp} (n : Nat), DpAll K h vs ds → DpAll K h (vs.drop n) (ds.drop n)
  | _, _, _, 0, r => r
  | _, _, _, _ + 1, .nil => .nil
  | _, _, _, n + 1, .cons _ t => DpAll.drop n t
theorem DpAll.set {x : PyData} {v : V} {h : Hp} (r : Dp K h v x) : ∀ {vs : List V} {ds : List PyData} (i : Nat), DpAll K h vs ds → DpAll K h (vs.set i v) (ds.set i x)
  | _, _, _, .nil => .nil
  | _, _, 0, .cons _ t => .cons r t
  | _, _, i + 1, .cons q t => .cons q (DpAll.set r i t)
theorem DpAll.eraseIdx {h : Hp} : ∀ {vs : List V} {ds : List PyData} (i : Nat), DpAll K h vs ds → DpAll K h (vs.eraseIdx i) (ds.eraseIdx i)
  | _, _, _, .nil => .nil
  | _, _, 0, .cons _ t => t
  | _, _, i + 1, .cons q t => .cons q (DpAll.eraseIdx i t)
theorem DpAll.replicate {x : PyData} {v : V} {h : Hp} (r : Dp K h v x) : ∀ n : Nat, DpAll K h (List.replicate n v) (List.replicate n x)
  | 0 => .nil
  | n + 1 => .cons r (DpAll.replicate r n)
theorem DpAll.flatten {h : Hp} {vs : List V} {ds : List PyData} (r : DpAll K h vs ds) : ∀ n : Nat, DpAll K h (List.replicate n vs).flatten (List.replicate n ds).flatten
  | 0 => .nil
  | n + 1 => by
    rw [List.replicate_succ, List.replicate_succ, List.flatten_cons, List.flatten_cons]
    exact DpAll.append r (DpAll.flatten r n)
theorem DpAll.reverse {h : Hp} : ∀ {vs : List V} {ds : List PyData}, DpAll K h vs ds → DpAll K h vs.reverse ds.reverse
  | _, _, .nil => .nil
  | _, _, .cons r t => by
    rw [List.reverse_cons, List.reverse_cons]
    exact DpAll.append (DpAll.reverse t) (.cons r .nil)

theorem Ex3.refl (w : W3) : Ex3 w w := ⟨⟨⟨[], by simp⟩, Same.refl _⟩, rfl⟩
theorem Ex0.trans (a : Ex0 w w') (b : Ex0 w' w'') : Ex0 w w'' := by
  obtain ⟨t, h1⟩ := a.al
  obtain ⟨u, h2⟩ := b.al
  exact ⟨⟨t ++ u, by rw [h2, h1, List.append_assoc]⟩, a.h.trans b.h⟩
theorem Ex3.trans (a : Ex3 w w') (b : Ex3 w' w'') : Ex3 w w'' := ⟨a.toEx0.trans b.toEx0, b.pn.trans a.pn⟩
theorem Ex0.get (e : Ex0 w w') {n : Nat} {a : Addr} (h : w.al[n]? = some a) : w'.al[n]? = some a := by
  obtain ⟨t, h1⟩ := e.al
  rw [h1, List.getElem?_append_left (List.getElem?_eq_some_iff.mp h).1]
  exact h
theorem RepD.mono0 (e : Ex0 w w') (h : RepD K w v d) : RepD K w' v d := by
  cases d with
  | p d => exact dp_mono e.h d v h
  | loc n =>
    obtain ⟨a, h1, h2⟩ := h
    exact ⟨a, e.get h1, h2⟩
theorem RepD.mono (e : Ex3 w w') (h : RepD K w v d) : RepD K w' v d := h.mono0 e.toEx0
theorem RepDs.mono (e : Ex3 w w') : ∀ {vs : List V} {ds : List D}, RepDs K w vs ds → RepDs K w' vs ds
  | [], [], _ => trivial
  | _ :: _, _ :: _, h => ⟨h.1.mono e, RepDs.mono e h.2⟩
  | [], _ :: _, h => h.elim
  | _ :: _, [], h => h.elim
theorem RepDs.length : ∀ {vs : List V} {ds : List D}, RepDs K w vs ds → vs.length = ds.length
  | [], [], _ => rfl
  | _ :: _, _ :: _, h => congrArg (· + 1) (RepDs.length h.2)
  | [], _ :: _, h => h.elim
  | _ :: _, [], h => h.elim
theorem EnvR.mono0 (e : Ex0 w w') (h : EnvR K w σ env) : EnvR K w' σ env := ⟨h.1, fun i d q => by
  obtain ⟨v, h1, h2⟩ := h.2 i d q
  exact ⟨v, h1, h2.mono0 e⟩⟩
theorem EnvR.mono (e : Ex3 w w') (h : EnvR K w σ env) : EnvR K w' σ env := h.mono0 e.toEx0
theorem EnvR.set (h : EnvR K w σ env) (i : Nat) (r : RepD K w v d) : EnvR K w (σ.set i (some v)) (set3 env i d) := by
  refine ⟨by rw [List.length_set, set3_length]; exact h.1, fun j e q => ?_⟩
  rw [at3_set] at q
  by_cases hj : j = i ∧ i < env.length
  · rw [if_pos hj] at q
    cases q
    obtain ⟨rfl, hi⟩ := hj
    exact ⟨v, by rw [List.getElem?_set_self (by rw [h.1]; exact hi)], r⟩
  · rw [if_neg hj] at q
    obtain ⟨u, h1, h2⟩ := h.2 j e q
    refine ⟨u, ?_, h2⟩
    by_cases e : i = j
    · subst e
      have : i < σ.length := (List.getElem?_eq_some_iff.mp h1).1
      exact absurd ⟨rfl, by rw [← h.1]; exact this⟩ hj
    · rw [List.getElem?_set_ne e]
      exact h1
theorem Rel3.szL (r : Rel3 K w H S) {a : Addr} {xs : List V} (h : SqL K w.h a xs) : xs.length ≤ sizeLine := by
  rcases h with (h | ⟨o, h⟩) | ⟨_, its, _, _, _, _, _, hz, rv⟩
  · exact r.sz a _ h
  · exact r.sz a _ h
  · have := Vals.length rv
    rw [this]
    simpa using hz
theorem Rel3.szT (r : Rel3 K w H S) {a : Addr} {xs : List V} (h : SqT K w.h a xs) : xs.length ≤ sizeLine := by
  rcases h with (h | ⟨o, h⟩) | ⟨_, its, _, _, _, _, hz, rv⟩
  · exact r.sz a _ h
  · exact r.sz a _ h
  · have := Vals.length rv
    rw [this]
    simpa using hz
theorem RepO.mono {u : HO} {o : O3} (e : Ex0 w w') (h : RepO K w u o) : RepO K w' u o := by
  cases o with
  | lst ds =>
    obtain ⟨xs, h4, h5, h6⟩ := h
    exact ⟨xs, h4, dpAll_mono e.h ds xs h5, h6⟩
  | dic kvs =>
    obtain ⟨kxs, h4, h5⟩ := h
    exact ⟨kxs, h4, Paired.mapP h5 fun p q z => ⟨z.1, dp_mono e.h _ _ z.2⟩⟩
theorem Rel3.notal (r : Rel3 K w H S) {a : Addr} (hn : H a = none) : ∀ (n : Nat) (b : Addr), w.al[n]? = some b → b ≠ a := fun n b e z => by
  subst z
  have hw : w.h b = none := r.sub.free hn
  have hl : n < S.length := by rw [← r.len]; exact (List.getElem?_eq_some_iff.mp e).1
  cases q : S[n]? with
  | none => exact absurd hl (by rw [List.getElem?_eq_none_iff] at q; omega)
  | some o =>
    cases o with
    | none =>
      obtain ⟨u', h1⟩ := r.dead n b e q
      rw [hw] at h1
      cases h1
    | some o =>
      obtain ⟨_, u', h1, _⟩ := r.live n b o e q
      rw [hn] at h1
      cases h1
/-- a new object that will never change -/
theorem Rel3.frz (r : Rel3 K w H S) {a : Addr} {u : HO} (hn : H a = none) (hz : SzO u) : Rel3 K ⟨w.al, upd w.h a u, w.pn⟩ (upd H a u) S ∧ Ex3 w ⟨w.al, upd w.h a u, w.pn⟩ := by
  have hw : w.h a = none := r.sub.free hn
  have sm : Same w.h (upd w.h a u) := fun b o e => by
    rw [upd_ne (ne_of_none e hw)]
    exact e
  have nal := r.notal hn
  have ex : Ex3 w ⟨w.al, upd w.h a u, w.pn⟩ := ⟨⟨⟨[], by simp⟩, sm⟩, rfl⟩
  refine ⟨⟨fun b o e => ?_, fun b o e => ?_, r.len, fun n b o e q => ?_, fun n b e q => ?_, r.nd, fun b o hb => ?_, r.pnd⟩, ex⟩
  · show upd H a u b = _
    by_cases hb : b = a
    · subst hb
      have e' : upd w.h b u b = some o := e
      rw [upd_same] at e' ⊢
      exact e'
    · have e' : upd w.h a u b = some o := e
      rw [upd_ne hb] at e' ⊢
      exact r.sub b o e'
  · have e' : upd w.h a u b = some o := e
    by_cases hb : b = a
    · subst hb
      rw [upd_same] at e'
      cases e'
      exact hz
    · rw [upd_ne hb] at e'
      exact r.sz b o e'
  · obtain ⟨h1, x, h2, h3⟩ := r.live n b o e q
    have nb := nal n b e
    exact ⟨by show upd w.h a u b = none; rw [upd_ne nb]; exact h1, x, by rw [upd_ne nb]; exact h2, h3.mono ex.toEx0⟩
  · obtain ⟨x, h1⟩ := r.dead n b e q
    exact ⟨x, sm b x h1⟩
  · obtain ⟨h1, h2, h3⟩ := r.pin b o hb
    have nb : b ≠ a := fun z => by rw [z, hn] at h1; cases h1
    exact ⟨by rw [upd_ne nb]; exact h1, by show upd w.h a u b = none; rw [upd_ne nb]; exact h2, h3⟩
/-- a new object of the store -/
theorem Rel3.push (r : Rel3 K w H S) {a : Addr} {u : HO} {o : O3} (hn : H a = none) (hr : RepO K w u o) : Rel3 K ⟨w.al ++ [a], w.h, w.pn⟩ (upd H a u) (S ++ [some o]) ∧ Ex3 w ⟨w.al ++ [a], w.h, w.pn⟩ := by
  have hw : w.h a = none := r.sub.free hn
  have nal := r.notal hn
  have ex : Ex3 w ⟨w.al ++ [a], w.h, w.pn⟩ := ⟨⟨⟨[a], rfl⟩, Same.refl _⟩, rfl⟩
  refine ⟨⟨fun b x e => ?_, r.sz, by simp [r.len], fun n b x e q => ?_, fun n b e q => ?_, ?_, fun b o hb => ?_, r.pnd⟩, ex⟩
  · have e' : w.h b = some x := e
    rw [upd_ne (ne_of_none e' hw)]
    exact r.sub b x e'
  · have e' : (w.al ++ [a])[n]? = some b := e
    by_cases hl : n < w.al.length
    · rw [List.getElem?_append_left hl] at e'
      rw [List.getElem?_append_left (by rw [← r.len]; exact hl)] at q
      obtain ⟨h1, y, h2, h3⟩ := r.live n b x e' q
      exact ⟨h1, y, by rw [upd_ne (nal n b e')]; exact h2, h3.mono ex.toEx0⟩
    · rw [List.getElem?_append_right (by omega)] at e'
      rw [List.getElem?_append_right (by rw [← r.len]; omega)] at q
      have hk : n - w.al.length = 0 := by
        have := (List.getElem?_eq_some_iff.mp e').1
        simp at this
        omega
      rw [hk] at e'
      rw [← r.len, hk] at q
      simp at e' q
      subst e' q
      exact ⟨hw, u, upd_same, hr.mono ex.toEx0⟩
  · have e' : (w.al ++ [a])[n]? = some b := e
    by_cases hl : n < w.al.length
    · rw [List.getElem?_append_left hl] at e'
      rw [List.getElem?_append_left (by rw [← r.len]; exact hl)] at q
      exact r.dead n b e' q
    · rw [List.getElem?_append_right (by rw [← r.len]; omega)] at q
      have hk : n - S.length = 0 := by
        have := (List.getElem?_eq_some_iff.mp q).1
        simp at this
        omega
      rw [hk] at q
      simp at q
  · rw [List.nodup_append]
    refine ⟨r.nd, by simp, fun x hx y hy => ?_⟩
    simp at hy
    subst hy
    obtain ⟨n, hn'⟩ := List.getElem?_of_mem hx
    exact nal n x hn'
  · obtain ⟨h1, h2, h3⟩ := r.pin b o hb
    have nb : b ≠ a := fun z => by rw [z, hn] at h1; cases h1
    exact ⟨by rw [upd_ne nb]; exact h1, h2, by simp only [List.mem_append, List.mem_singleton, not_or]; exact ⟨h3, nb⟩⟩
/-- an object of the store is changed -/
theorem Rel3.put (r : Rel3 K w H S) {n : Nat} {a : Addr} {u : HO} {o o' : O3} (ha : w.al[n]? = some a) (hs : S[n]? = some (some o)) (hr : RepO K w u o') : Rel3 K w (upd H a u) (S.set n (some o')) := by
  obtain ⟨hw, _⟩ := r.live n a o ha hs
  have hlen : n < S.length := (List.getElem?_eq_some_iff.mp hs).1
  have other : ∀ m b, w.al[m]? = some b → m ≠ n → b ≠ a := fun m b e hm z => by
    subst z
    obtain ⟨h1, e1⟩ := List.getElem?_eq_some_iff.mp e
    obtain ⟨h2, e2⟩ := List.getElem?_eq_some_iff.mp ha
    exact hm ((List.getElem_inj r.nd).mp (e1.trans e2.symm))
  refine ⟨fun b x e => ?_, r.sz, by simp [r.len], fun m b x e q => ?_, fun m b e q => ?_, r.nd, fun b o hb => ?_, r.pnd⟩
  rotate_right
  · obtain ⟨h1, h2, h3⟩ := r.pin b o hb
    have nb : b ≠ a := fun z => h3 (by rw [z]; exact List.mem_of_getElem? ha)
    exact ⟨by rw [upd_ne nb]; exact h1, h2, h3⟩
  · rw [upd_ne (ne_of_none e hw)]
    exact r.sub b x e
  · by_cases hm : m = n
    · subst hm
      rw [List.getElem?_set_self hlen] at q
      have e1 : b = a := Option.some.inj (e.symm.trans ha)
      cases q
      subst e1
      exact ⟨hw, u, upd_same, hr⟩
    · rw [List.getElem?_set_ne (Ne.symm hm)] at q
      obtain ⟨h1, y, h2, h3⟩ := r.live m b x e q
      exact ⟨h1, y, by rw [upd_ne (other m b e hm)]; exact h2, h3⟩
  · by_cases hm : m = n
    · subst hm
      rw [List.getElem?_set_self hlen] at q
      cases q
    · rw [List.getElem?_set_ne (Ne.symm hm)] at q
      exact r.dead m b e q
/-- an object of the store is said to change no more -/
theorem Rel3.freeze (r : Rel3 K w H S) {n : Nat} {a : Addr} {ds : List PyData} (ha : w.al[n]? = some a) (hs : S[n]? = some (some (.lst ds))) :
    ∃ u, Rel3 K ⟨w.al, upd w.h a u, w.pn⟩ H (S.set n none) ∧ Ex3 w ⟨w.al, upd w.h a u, w.pn⟩ ∧ Dp K (upd w.h a u) (.ref a) (.list ds) := by
  obtain ⟨hw, u, hu, xs, rfl, hd, hz⟩ := r.live n a _ ha hs
  have hlen : n < S.length := (List.getElem?_eq_some_iff.mp hs).1
  have sm : Same w.h (upd w.h a (.lst xs)) := fun b o e => by
    rw [upd_ne (ne_of_none e hw)]
    exact e
  have ex : Ex3 w ⟨w.al, upd w.h a (.lst xs), w.pn⟩ := ⟨⟨⟨[], by simp⟩, sm⟩, rfl⟩
  have other : ∀ m b, w.al[m]? = some b → m ≠ n → b ≠ a := fun m b e hm z => by
    subst z
    obtain ⟨h1, e1⟩ := List.getElem?_eq_some_iff.mp e
    obtain ⟨h2, e2⟩ := List.getElem?_eq_some_iff.mp ha
    exact hm ((List.getElem_inj r.nd).mp (e1.trans e2.symm))
  refine ⟨.lst xs, ⟨fun b x e => ?_, fun b x e => ?_, by simp [r.len], fun m b x e q => ?_, fun m b e q => ?_, r.nd, fun b o hb => ?_, r.pnd⟩, ex, .lst (.inl (.inl upd_same)) (dpAll_mono sm ds xs hd)⟩
  · have e' : upd w.h a (.lst xs) b = some x := e
    by_cases hb : b = a
    · subst hb
      rw [upd_same] at e'
      cases e'
      exact hu
    · rw [upd_ne hb] at e'
      exact r.sub b x e'
  · have e' : upd w.h a (.lst xs) b = some x := e
    by_cases hb : b = a
    · subst hb
      rw [upd_same] at e'
      cases e'
      show xs.length ≤ sizeLine
      rw [DpAll.length hd]
      exact hz
    · rw [upd_ne hb] at e'
      exact r.sz b x e'
  · by_cases hm : m = n
    · subst hm
      rw [List.getElem?_set_self hlen] at q
      cases q
    · rw [List.getElem?_set_ne (Ne.symm hm)] at q
      obtain ⟨h1, y, h2, h3⟩ := r.live m b x e q
      exact ⟨by show upd w.h a (.lst xs) b = none; rw [upd_ne (other m b e hm)]; exact h1, y, h2, h3.mono ex.toEx0⟩
  · by_cases hm : m = n
    · subst hm
      have : b = a := Option.some.inj (e.symm.trans ha)
      subst this
      exact ⟨_, upd_same⟩
    · rw [List.getElem?_set_ne (Ne.symm hm)] at q
      obtain ⟨y, h1⟩ := r.dead m b e q
      exact ⟨y, sm b y h1⟩
  · obtain ⟨h1, h2, h3⟩ := r.pin b o hb
    have nb : b ≠ a := fun z => h3 (by rw [z]; exact List.mem_of_getElem? ha)
    exact ⟨h1, by show upd w.h a (.lst xs) b = none; rw [upd_ne nb]; exact h2, h3⟩
/-- the last objects of the store are forgotten -/
theorem Rel3.shrink (r : Rel3 K w H S) (L : Nat) : Rel3 K ⟨w.al.take L, w.h, w.pn⟩ H (S.take L) := by
  refine ⟨r.sub, r.sz, by simp [r.len], fun n a o e q => ?_, fun n a e q => ?_, r.nd.sublist (List.take_sublist _ _), fun b o hb => ?_, r.pnd⟩
  rotate_right
  · obtain ⟨h1, h2, h3⟩ := r.pin b o hb
    exact ⟨h1, h2, fun z => h3 (List.mem_of_mem_take z)⟩
  · have e' : (w.al.take L)[n]? = some a := e
    have hn : n < L := by
      have := (List.getElem?_eq_some_iff.mp e').1
      rw [List.length_take] at this
      omega
    rw [List.getElem?_take_of_lt hn] at e' q
    obtain ⟨h1, u, h2, h3⟩ := r.live n a o e' q
    refine ⟨h1, u, h2, ?_⟩
    cases o with
    | lst ds => exact h3
    | dic kvs => exact h3
  · have e' : (w.al.take L)[n]? = some a := e
    have hn : n < L := by
      have := (List.getElem?_eq_some_iff.mp e').1
      rw [List.length_take] at this
      omega
    rw [List.getElem?_take_of_lt hn] at e' q
    exact r.dead n a e' q
/-- a new object that stands apart, as it is -/
theorem Rel3.pinNew (r : Rel3 K w H S) {a : Addr} {u : HO} (hn : H a = none) : Rel3 K ⟨w.al, w.h, (a, u) :: w.pn⟩ (upd H a u) S := by
  have hw : w.h a = none := r.sub.free hn
  have nal := r.notal hn
  refine ⟨fun b x e => ?_, r.sz, r.len, fun n b x e q => ?_, r.dead, r.nd, fun b o hb => ?_, ?_⟩
  · rw [upd_ne (ne_of_none e hw)]
    exact r.sub b x e
  · obtain ⟨h1, y, h2, h3⟩ := r.live n b x e q
    exact ⟨h1, y, by rw [upd_ne (nal n b e)]; exact h2, h3.mono ⟨⟨[], by simp⟩, Same.refl _⟩⟩
  · rcases List.mem_cons.mp hb with e | hb
    · cases e
      refine ⟨upd_same, hw, fun z => ?_⟩
      obtain ⟨n, h⟩ := List.getElem?_of_mem z
      exact nal n _ h rfl
    · obtain ⟨h1, h2, h3⟩ := r.pin b o hb
      have nb : b ≠ a := fun z => by rw [z, hn] at h1; cases h1
      exact ⟨by rw [upd_ne nb]; exact h1, h2, h3⟩
  · show (a :: w.pn.map (·.1)).Nodup
    rw [List.nodup_cons]
    refine ⟨fun z => ?_, r.pnd⟩
    obtain ⟨p, hp, e⟩ := List.mem_map.mp z
    have := (r.pin p.1 p.2 hp).1
    rw [e, hn] at this
    cases this
/-- what stands apart is written -/
theorem Rel3.repin {al : List Addr} {h : Hp} {a : Addr} {u u' : HO} {pn : List (Addr × HO)} (r : Rel3 K ⟨al, h, (a, u) :: pn⟩ H S) : Rel3 K ⟨al, h, (a, u') :: pn⟩ (upd H a u') S := by
  obtain ⟨h1, h2, h3⟩ := r.pin a u List.mem_cons_self
  have nd := List.nodup_cons.mp (show (a :: pn.map (·.1)).Nodup from r.pnd)
  refine ⟨fun b x e => ?_, r.sz, r.len, fun n b x e q => ?_, r.dead, r.nd, fun b o hb => ?_, r.pnd⟩
  · rw [upd_ne (ne_of_none e h2)]
    exact r.sub b x e
  · obtain ⟨g1, y, g2, g3⟩ := r.live n b x e q
    have nb : b ≠ a := fun z => h3 (by rw [← z]; exact List.mem_of_getElem? e)
    exact ⟨g1, y, by rw [upd_ne nb]; exact g2, g3.mono ⟨⟨[], by simp⟩, Same.refl _⟩⟩
  · rcases List.mem_cons.mp hb with e | hb
    · cases e
      exact ⟨upd_same, h2, h3⟩
    · obtain ⟨g1, g2, g3⟩ := r.pin b o (List.mem_cons_of_mem _ hb)
      have nb : b ≠ a := fun z => nd.1 (by rw [← z]; exact List.mem_map_of_mem (f := (·.1)) hb)
      exact ⟨by rw [upd_ne nb]; exact g1, g2, g3⟩
/-- the heap without an address -/
def del (H : Hp) (a : Addr) : Hp := fun b => if b = a then none else H b
theorem Rel3.unpin {al : List Addr} {h : Hp} {a : Addr} {u : HO} {pn : List (Addr × HO)} (r : Rel3 K ⟨al, h, (a, u) :: pn⟩ H S) : Rel3 K ⟨al, h, pn⟩ (del H a) S ∧ del H a a = none ∧ upd (del H a) a u = H := by
  obtain ⟨h1, h2, h3⟩ := r.pin a u List.mem_cons_self
  have nd := List.nodup_cons.mp (show (a :: pn.map (·.1)).Nodup from r.pnd)
  have dn : ∀ b, b ≠ a → del H a b = H b := fun b hb => by unfold del; rw [if_neg hb]
  refine ⟨⟨fun b x e => ?_, r.sz, r.len, fun n b x e q => ?_, r.dead, r.nd, fun b o hb => ?_, nd.2⟩, by unfold del; rw [if_pos rfl], ?_⟩
  · rw [dn b (ne_of_none e h2)]
    exact r.sub b x e
  · obtain ⟨g1, y, g2, g3⟩ := r.live n b x e q
    have nb : b ≠ a := fun z => h3 (by rw [← z]; exact List.mem_of_getElem? e)
    exact ⟨g1, y, by rw [dn b nb]; exact g2, g3.mono ⟨⟨[], by simp⟩, Same.refl _⟩⟩
  · obtain ⟨g1, g2, g3⟩ := r.pin b o (List.mem_cons_of_mem _ hb)
    have nb : b ≠ a := fun z => nd.1 (by rw [← z]; exact List.mem_map_of_mem (f := (·.1)) hb)
    exact ⟨by rw [dn b nb]; exact g1, g2, g3⟩
  · funext b
    by_cases hb : b = a
    · subst hb
      rw [upd_same, h1]
    · rw [upd_ne hb, dn b hb]
end
end L3

namespace L3
open PySem PySem.Spec PyProof.Rows L2
/-! ### readings over trees and a store -/
abbrev K3 := D → S3 → Prop
abbrev TE3 := E3 → S3 → K3 → Prop
abbrev TT3 := E3 → S3 → (Bool → S3 → Prop) → Prop
abbrev TA3 := E3 → S3 → (List D → S3 → Prop) → Prop
abbrev R3 := D → D → S3 → K3 → Prop
abbrev U3 := D → S3 → K3 → Prop
abbrev C3 := List D → S3 → K3 → Prop
structure N3 where
  nx : E3 → S3 → Prop
  rt : K3
  bk : E3 → S3 → Prop := fun _ _ => False
  ct : E3 → S3 → Prop := fun _ _ => False
abbrev TS3 := N3 → E3 → S3 → Prop
abbrev TG3 := D → E3 → S3 → (E3 → S3 → Prop) → Prop
abbrev TGs3 := List PyData → E3 → S3 → (E3 → S3 → Prop) → Prop
abbrev TI3 := E3 → S3 → (List PyData → (S3 → Prop) → S3 → Prop) → Prop

section
variable (K : PySem.W.Frag)
/-- what is wanted behind, by trees; by values -/
def EndE (w : W3) (Q : K3) (R : VK) : Prop := ∀ w' v d H' S', Ex3 w w' → Rel3 K w' H' S' → RepD K w' v d → Q d S' → R v H'
def EndT (w : W3) (Q : Bool → S3 → Prop) (R : Bool → Hp → Prop) : Prop := ∀ w' b H' S', Ex3 w w' → Rel3 K w' H' S' → Q b S' → R b H'
def EndA (w : W3) (Q : List D → S3 → Prop) (R : List V → Hp → Prop) : Prop := ∀ w' vs ds H' S', Ex3 w w' → Rel3 K w' H' S' → RepDs K w' vs ds → Q ds S' → R vs H'
def EndN (w : W3) (Q : E3 → S3 → Prop) (R : L2.St → Hp → Prop) : Prop := ∀ w' σ' H' env' S', Ex3 w w' → Rel3 K w' H' S' → EnvR K w' σ' env' → Q env' S' → R σ' H'
structure EndS (w : W3) (D3 : N3) (D2 : Ends) : Prop where
  nx : EndN K w D3.nx D2.nx
  rt : EndE K w D3.rt D2.rt
  bk : EndN K w D3.bk D2.bk
  ct : EndN K w D3.ct D2.ct
def low (t : TE3) : TE := fun σ H R => ∃ w env S Q, Rel3 K w H S ∧ EnvR K w σ env ∧ t env S Q ∧ EndE K w Q R
def lowT (t : TT3) : TT := fun σ H R => ∃ w env S Q, Rel3 K w H S ∧ EnvR K w σ env ∧ t env S Q ∧ EndT K w Q R
def lowA (t : TA3) : TA := fun σ H R => ∃ w env S Q, Rel3 K w H S ∧ EnvR K w σ env ∧ t env S Q ∧ EndA K w Q R
def lowS (t : TS3) : TS := fun D2 σ H => ∃ w env S D3, Rel3 K w H S ∧ EnvR K w σ env ∧ t D3 env S ∧ EndS K w D3 D2
def lowG (t : TG3) : TG := fun v σ H R => ∃ w env S d Q, Rel3 K w H S ∧ EnvR K w σ env ∧ RepD K w v d ∧ t d env S Q ∧ EndN K w Q R
def lowGs (t : TGs3) : TGs := fun vs σ H R => ∃ w env S ds Q, Rel3 K w H S ∧ EnvR K w σ env ∧ DpAll K w.h vs ds ∧ t ds env S Q ∧ EndN K w Q R
def lowR (r : R3) : R2 := fun x y H R => ∃ w S d e Q, Rel3 K w H S ∧ RepD K w x d ∧ RepD K w y e ∧ r d e S Q ∧ EndE K w Q R
def lowU (r : U3) : V → Hp → VK → Prop := fun x H R => ∃ w S d Q, Rel3 K w H S ∧ RepD K w x d ∧ r d S Q ∧ EndE K w Q R
def lowC (r : C3) : List V → Hp → VK → Prop := fun xs H R => ∃ w S ds Q, Rel3 K w H S ∧ RepDs K w xs ds ∧ r ds S Q ∧ EndE K w Q R
/-- an iterator that yields the items xs, as long as the store is ok -/
def ItR (w : W3) (J : It) (xs : List PyData) (ok : S3 → Prop) : Prop := ∀ w' H S, Ex0 w w' → Rel3 K w' H S → ok S →
  (∀ i, xs.length ≤ i → J.stop i H) ∧ ∀ i x, xs[i]? = some x → J.go i H ∧ ∀ v H', J.yld i H v H' → ∃ w'', Ex3 w' w'' ∧ Rel3 K w'' H' S ∧ Dp K w''.h v x
def lowI (t : TI3) : TI := fun σ H R => ∃ w env S Q, Rel3 K w H S ∧ EnvR K w σ env ∧ t env S Q ∧
  ∀ w' J H' S' xs ok, Ex3 w w' → Rel3 K w' H' S' → ItR K w' J xs ok → xs.length ≤ sizeLine → Q xs ok S' → R J H'
end
section
variable {K : PySem.W.Frag} {w w' : W3}
theorem EndE.mono {Q : K3} {R : VK} (h : EndE K w Q R) (e : Ex3 w w') : EndE K w' Q R := fun w2 v d H' S' x r rd q => h w2 v d H' S' (e.trans x) r rd q
theorem EndT.mono {Q : Bool → S3 → Prop} {R : Bool → Hp → Prop} (h : EndT K w Q R) (e : Ex3 w w') : EndT K w' Q R := fun w2 v H' S' x r q => h w2 v H' S' (e.trans x) r q
theorem EndA.mono {Q : List D → S3 → Prop} {R : List V → Hp → Prop} (h : EndA K w Q R) (e : Ex3 w w') : EndA K w' Q R := fun w2 v d H' S' x r rd q => h w2 v d H' S' (e.trans x) r rd q
theorem EndN.mono {Q : E3 → S3 → Prop} {R : L2.St → Hp → Prop} (h : EndN K w Q R) (e : Ex3 w w') : EndN K w' Q R := fun w2 v H' env S' x r rd q => h w2 v H' env S' (e.trans x) r rd q
theorem EndS.mono {D3 : N3} {D2 : Ends} (h : EndS K w D3 D2) (e : Ex3 w w') : EndS K w' D3 D2 := ⟨h.nx.mono e, h.rt.mono e, h.bk.mono e, h.ct.mono e⟩
end

/-! ### consequence -/
section
variable {X : Cx} {e : Expr} {es : List Expr} {st : Stmt} {sts : List Stmt}
theorem _root_.L2.PE.imp {t t' : TE} (h : PE X e t) (i : ∀ σ H R, t' σ H R → t σ H R) : PE X e t' := ⟨fun pins s σ H Q I q => h.run pins s σ H Q I (i _ _ _ q)⟩
theorem _root_.L2.PT.imp {t t' : TT} (h : PT X e t) (i : ∀ σ H R, t' σ H R → t σ H R) : PT X e t' := ⟨fun pins s σ H Q I q => h.run pins s σ H Q I (i _ _ _ q)⟩
theorem _root_.L2.PW.imp {t t' : TT} (h : PW X e t) (i : ∀ σ H R, t' σ H R → t σ H R) : PW X e t' := ⟨fun wh pins s σ H Q I q => h.run wh pins s σ H Q I (i _ _ _ q)⟩
theorem _root_.L2.PA.imp {t t' : TA} (h : PA X es t) (i : ∀ σ H R, t' σ H R → t σ H R) : PA X es t' := ⟨fun pos pins s σ H Q I q => h.run pos pins s σ H Q I (i _ _ _ q)⟩
theorem _root_.L2.PS.imp {t t' : TS} (h : PS X st t) (i : ∀ D σ H, t' D σ H → t D σ H) : PS X st t' := ⟨fun pins s σ H D I q => h.run pins s σ H D I (i _ _ _ q)⟩
theorem _root_.L2.PSs.imp {t t' : TS} (h : PSs X sts t) (i : ∀ D σ H, t' D σ H → t D σ H) : PSs X sts t' := ⟨fun pins s σ H D I q => h.run pins s σ H D I (i _ _ _ q)⟩
theorem _root_.L2.PG.imp {t t' : TG} (h : PG X e t) (i : ∀ v σ H R, t' v σ H R → t v σ H R) : PG X e t' := ⟨fun pins s σ H v u Q I r q => h.run pins s σ H v u Q I r (i _ _ _ _ q)⟩
theorem _root_.L2.PGs.imp {t t' : TGs} (h : PGs X es t) (i : ∀ v σ H R, t' v σ H R → t v σ H R) : PGs X es t' := ⟨fun pins s σ H v u Q I r q => h.run pins s σ H v u Q I r (i _ _ _ _ q)⟩
theorem _root_.L2.PI.imp {tg : Expr} {t t' : TI} (h : PI X tg e t) (i : ∀ σ H R, t' σ H R → t σ H R) : PI X tg e t' := ⟨fun pins s σ H R I q => h.run pins s σ H R I (i _ _ _ q)⟩
theorem OpR.imp {f : Value → Value → Sem Value} {r r' : R2} (h : OpR X f r) (i : ∀ x y H Q, r' x y H Q → r x y H Q) : OpR X f r' := fun pins s σ H x y v u Q I rx ry q => h pins s σ H x y v u Q I rx ry (i _ _ _ _ q)
theorem IxR.imp {r r' : R2} (h : IxR X r) (i : ∀ x y H Q, r' x y H Q → r x y H Q) : IxR X r' := fun a b pins s σ H x y v u Q I rx ry q => h a b pins s σ H x y v u Q I rx ry (i _ _ _ _ q)
theorem CallR.imp {f : Value} {r r' : List V → Hp → VK → Prop} (h : CallR X f r) (i : ∀ x H Q, r' x H Q → r x H Q) : CallR X f r' := fun pins s σ H xs us Q I rx q => h pins s σ H xs us Q I rx (i _ _ _ q)
theorem CallR.or {f : Value} {r r' : List V → Hp → VK → Prop} (h : CallR X f r) (h' : CallR X f r') : CallR X f (fun x H Q => r x H Q ∨ r' x H Q) := fun pins s σ H xs us Q I rx q => q.elim (h pins s σ H xs us Q I rx) (h' pins s σ H xs us Q I rx)
theorem UnR.imp {f : Value → Sem Value} {r r' : V → Hp → VK → Prop} (h : UnR X f r) (i : ∀ x H Q, r' x H Q → r x H Q) : UnR X f r' := fun pins s σ H x v Q I rx q => h pins s σ H x v Q I rx (i _ _ _ q)
theorem MtR.imp {id : String} {r r' : V → List V → Hp → VK → Prop} (h : MtR X id r) (i : ∀ x xs H Q, r' x xs H Q → r x xs H Q) : MtR X id r' := fun pins s σ H x xs v us Q I rx rs q => h pins s σ H x xs v us Q I rx rs (i _ _ _ _ q)
end

/-! ### the judgements -/
abbrev QE (X : Cx) (e : Expr) (t : TE3) : Prop := PE X e (low X.K t)
abbrev QT (X : Cx) (e : Expr) (t : TT3) : Prop := PT X e (lowT X.K t)
abbrev QW (X : Cx) (e : Expr) (t : TT3) : Prop := PW X e (lowT X.K t)
abbrev QA (X : Cx) (es : List Expr) (t : TA3) : Prop := PA X es (lowA X.K t)
abbrev QS (X : Cx) (st : Stmt) (t : TS3) : Prop := PS X st (lowS X.K t)
abbrev QSs (X : Cx) (sts : List Stmt) (t : TS3) : Prop := PSs X sts (lowS X.K t)
abbrev QG (X : Cx) (e : Expr) (t : TG3) : Prop := PG X e (lowG X.K t)
abbrev QGs (X : Cx) (es : List Expr) (t : TGs3) : Prop := PGs X es (lowGs X.K t)
abbrev QI (X : Cx) (tg e : Expr) (t : TI3) : Prop := PI X tg e (lowI X.K t)
abbrev OQ (X : Cx) (f : Value → Value → Sem Value) (r : R3) : Prop := OpR X f (lowR X.K r)
abbrev IQ (X : Cx) (r : R3) : Prop := IxR X (lowR X.K r)
abbrev UQ (X : Cx) (f : Value → Sem Value) (r : U3) : Prop := UnR X f (lowU X.K r)
abbrev CQ (X : Cx) (f : Value) (r : C3) : Prop := CallR X f (lowC X.K r)

/-! ### names, constants, operators -/
def tVar3 (i : Nat) : TE3 := fun env S Q => match at3 env i with
  | some d => Q d S
  | none => False
def tC3 (d : PyData) : TE3 := fun _ S Q => Q (.p d) S
def tOp3 (r : R3) (ta tb : TE3) : TE3 := fun env S Q => ta env S fun x S1 => tb env S1 fun y S2 => r x y S2 Q
def tUn3 (r : U3) (ta : TE3) : TE3 := fun env S Q => ta env S fun x S1 => r x S1 Q
def tNil3 : TA3 := fun _ S Q => Q [] S
def tCons3 (ta : TE3) (tr : TA3) : TA3 := fun env S Q => ta env S fun x S1 => tr env S1 fun xs S2 => Q (x :: xs) S2
def tCB3 (r : C3) (t : TA3) : TE3 := fun env S Q => t env S fun ds S1 => r ds S1 Q
section
variable {X : Cx} {a b c : Expr} {es : List Expr} {ta tb tc : TE3} {tr : TA3} {pos : Pos}
theorem qv (i : Nat) {x : Str} {pos : Pos} (hN : X.N[i]? = some x := by rfl) (hv : Vis X.env.scope x := by first | exact Or.inl rfl | exact Or.inr (Or.inl rfl) | exact Or.inr (Or.inr rfl)) (hd : (x == ("__debug__" : Str)) = false := by decide)
    (hcd : (x == ("__classdict__" : Str)) = false := by decide) : QE X (.Name x pos) (tVar3 i) := (pe_var hN hv hd hcd).imp fun σ H R ⟨w, env, S, Q, r, en, t, q⟩ => by
  unfold tVar3 at t
  cases h : at3 env i with
  | none => rw [h] at t; exact t.elim
  | some d =>
    rw [h] at t
    obtain ⟨v, h1, h2⟩ := en.2 i d h
    exact ⟨v, h1, q w v d H S (Ex3.refl w) r h2 t⟩
theorem qe_c {v : V} {d : PyData} (h : PE X a (tC v)) (hd : ∀ K H, Dp K H v d) : QE X a (tC3 d) := L2.PE.imp h fun σ H R ⟨w, env, S, Q, r, en, t, q⟩ => q w v (.p d) H S (Ex3.refl w) r (hd _ _) t
theorem qe_int {i j pos} : QE X (.Constant (.int i) j pos) (tC3 (.int i)) := qe_c pe_int fun _ _ => .int i
theorem qe_bl {i j pos} : QE X (.Constant (.bool i) j pos) (tC3 (.bool i)) := qe_c pe_bl fun _ _ => .bl i
theorem qe_non {j pos} : QE X (.Constant .none j pos) (tC3 .none) := qe_c pe_non fun _ _ => .non
theorem qe_str {x j pos} : QE X (.Constant (.str x) j pos) (tC3 (.str x)) := qe_c pe_str fun _ _ => .str x
/-- a module's constant -/
theorem qe_glob {x : Str} {v : V} {u : Value} {d : PyData} {pos : Pos} (hg : Gl X x) (hm : X.mg x = some u) (r : RelV v u) (hd : ∀ H, Dp X.K H v d) (hdb : (x == ("__debug__" : Str)) = false := by decide) : QE X (.Name x pos) (tC3 d) :=
  L2.PE.imp (pe_glob hg hm r hdb) fun σ H R ⟨w, env, S, Q, r, en, t, q⟩ => q w v (.p d) H S (Ex3.refl w) r (hd _) t

theorem low2 {K : PySem.W.Frag} {r : R3} {σ : L2.St} {H : Hp} {R : VK} (h : low K (tOp3 r ta tb) σ H R) : tOp (lowR K r) (low K ta) (low K tb) σ H R := by
  obtain ⟨w, env, S, Q, r0, en, t, q⟩ := h
  refine ⟨w, env, S, _, r0, en, t, fun w1 v1 d1 H1 S1 e1 r1 p1 t1 => ?_⟩
  refine ⟨w1, env, S1, _, r1, en.mono e1, t1, fun w2 v2 d2 H2 S2 e2 r2 p2 t2 => ?_⟩
  exact ⟨w2, S2, d1, d2, Q, r2, p1.mono e2, p2, t2, q.mono (e1.trans e2)⟩
theorem qe_op {op : Operator} {r : R3} (ho : OQ X (binaryOp op) r) (ha : QE X a ta) (hb : QE X b tb) : QE X (.BinOp a op b pos) (tOp3 r ta tb) := (pe_op ho ha hb).imp fun _ _ _ => low2
theorem qe_un {op : UnaryOp} {r : U3} (ho : UQ X (unaryOp op) r) (ha : QE X a ta) : QE X (.UnaryOp op a pos) (tUn3 r ta) := (pe_un ho ha).imp fun σ H R ⟨w, env, S, Q, r0, en, t, q⟩ =>
  ⟨w, env, S, _, r0, en, t, fun w1 v1 d1 H1 S1 e1 r1 p1 t1 => ⟨w1, S1, d1, Q, r1, p1, t1, q.mono e1⟩⟩
theorem qe_ix {r : R3} (hr : IQ X r) (ha : QE X a ta) (hb : QE X b tb) (hs : PlainIx b := by exact fun _ _ => rfl) : QE X (.Subscript a b pos) (tOp3 r ta tb) := (pe_ix hr ha hb hs).imp fun _ _ _ => low2
theorem qe_cmp {op : CmpOp} {r : R3} (ho : OQ X (compareOp op) r) (ha : QE X a ta) (hb : QE X b tb) (hm : behindInMarks op b = false := by first | exact nomark _ | rfl) : QE X (.Compare a [op] [b] pos) (tOp3 r ta tb) := (pe_cmpR ho ha hb hm).imp fun _ _ _ => low2
def tTest3 (t : TE3) : TT3 := fun env S Q => t env S fun x S1 => match x with
  | .p (.bool c) => Q c S1
  | _ => False
theorem dp_bl {K : PySem.W.Frag} {w : W3} {v : V} {b : Bool} (h : RepD K w v (.p (.bool b))) : v = .bl b := by
  have h' : Dp K w.h v (.bool b) := h
  cases h'
  rfl
theorem dp_int {K : PySem.W.Frag} {w : W3} {v : V} {b : Int} (h : RepD K w v (.p (.int b))) : v = .int b := by
  have h' : Dp K w.h v (.int b) := h
  cases h'
  rfl
theorem dp_str {K : PySem.W.Frag} {w : W3} {v : V} {b : Str} (h : RepD K w v (.p (.str b))) : v = .str b := by
  have h' : Dp K w.h v (.str b) := h
  cases h'
  rfl
theorem dp_non {K : PySem.W.Frag} {w : W3} {v : V} (h : RepD K w v (.p .none)) : v = .non := by
  have h' : Dp K w.h v .none := h
  cases h'
  rfl
theorem rep_int {K : PySem.W.Frag} {w : W3} {i : Int} : RepD K w (.int i) (.p (.int i)) := Dp.int i
theorem rep_bl {K : PySem.W.Frag} {w : W3} {i : Bool} : RepD K w (.bl i) (.p (.bool i)) := Dp.bl i
theorem rep_str {K : PySem.W.Frag} {w : W3} {i : Str} : RepD K w (.str i) (.p (.str i)) := Dp.str i
theorem rep_non {K : PySem.W.Frag} {w : W3} : RepD K w .non (.p .none) := Dp.non
theorem test_low {K : PySem.W.Frag} {t : TE3} {t2 : TE} {σ : L2.St} {H : Hp} {R : Bool → Hp → Prop} (h2 : ∀ R', low K t σ H R' → t2 σ H R') (h : lowT K (tTest3 t) σ H R) : t2 σ H fun x H' => ∃ k, x = .bl k ∧ R k H' := by
  obtain ⟨w, env, S, Q, r0, en, t, q⟩ := h
  refine h2 _ ⟨w, env, S, _, r0, en, t, fun w1 v1 d1 H1 S1 e1 r1 p1 t1 => ?_⟩
  cases d1 with
  | loc n => exact t1.elim
  | p d =>
    cases d with
    | bool c => exact ⟨c, dp_bl p1, q w1 c H1 S1 e1 r1 t1⟩
    | _ => exact t1.elim
theorem qt_cmp {op : CmpOp} {r : R3} (ho : OQ X (compareOp op) r) (ha : QE X a ta) (hb : QE X b tb) (hm : behindInMarks op b = false := by first | exact nomark _ | rfl) : QT X (.Compare a [op] [b] pos) (tTest3 (tOp3 r ta tb)) :=
  (pt_cmpR ho ha hb hm).imp fun σ H R h => test_low (fun R' => low2) h
def tChain3 (r r' : R3) (ta tb tc : TE3) : TE3 := fun env S Q => ta env S fun x S1 => tb env S1 fun y S2 => r x y S2 fun z S3 => match z with
  | .p (.bool k) => if k = true then tc env S3 fun v S4 => r' y v S4 Q else Q (.p (.bool false)) S3
  | _ => False
theorem low_chain {K : PySem.W.Frag} {r r' : R3} {σ : L2.St} {H : Hp} {R : VK} (h : low K (tChain3 r r' ta tb tc) σ H R) : tChain (lowR K r) (lowR K r') (low K ta) (low K tb) (low K tc) σ H R := by
  obtain ⟨w, env, S, Q, r0, en, t, q⟩ := h
  refine ⟨w, env, S, _, r0, en, t, fun w1 v1 d1 H1 S1 e1 r1 p1 t1 => ?_⟩
  refine ⟨w1, env, S1, _, r1, en.mono e1, t1, fun w2 v2 d2 H2 S2 e2 r2 p2 t2 => ?_⟩
  refine ⟨w2, S2, d1, d2, _, r2, p1.mono e2, p2, t2, fun w3 v3 d3 H3 S3 e3 r3 p3 t3 => ?_⟩
  cases d3 with
  | loc n => exact t3.elim
  | p d =>
    cases d with
    | bool k =>
      refine ⟨k, dp_bl p3, ?_⟩
      cases k with
      | true =>
        simp only [if_true] at t3
        rw [if_pos rfl]
        refine ⟨w3, env, S3, _, r3, en.mono ((e1.trans e2).trans e3), t3, fun w4 v4 d4 H4 S4 e4 r4 p4 t4 => ?_⟩
        exact ⟨w4, S4, d2, d4, Q, r4, p2.mono (e3.trans e4), p4, t4, q.mono (((e1.trans e2).trans e3).trans e4)⟩
      | false =>
        simp only [Bool.false_eq_true, if_false] at t3
        rw [if_neg Bool.false_ne_true]
        exact q w3 _ _ H3 S3 ((e1.trans e2).trans e3) r3 rep_bl t3
    | _ => exact t3.elim
theorem qe_chain {op op' : CmpOp} {r r' : R3} (ho : OQ X (compareOp op) r) (ho' : OQ X (compareOp op') r') (ha : QE X a ta) (hb : QE X b tb) (hc : QE X c tc)
    (hm : lastMarks [op, op'] [b, c] = false := by with_unfolding_all rfl) : QE X (.Compare a [op, op'] [b, c] pos) (tChain3 r r' ta tb tc) := (pe_chain ho ho' ha hb hc hm).imp fun _ _ _ => low_chain
theorem qt_chain {op op' : CmpOp} {r r' : R3} (ho : OQ X (compareOp op) r) (ho' : OQ X (compareOp op') r') (ha : QE X a ta) (hb : QE X b tb) (hc : QE X c tc)
    (hm : lastMarks [op, op'] [b, c] = false := by with_unfolding_all rfl) : QT X (.Compare a [op, op'] [b, c] pos) (tTest3 (tChain3 r r' ta tb tc)) := (pt_chain ho ho' ha hb hc hm).imp fun σ H R h => test_low (fun R' => low_chain) h
/-- an expression that gives a truth, as a test -/
theorem qt_val {e : Expr} {t : TE3} (h : QE X e t) (he : ∀ whole, isTrue e X.env whole = (do let v ← whole; standAt e.pos; holding [v] (truthy v)) := by intro _; rfl) : QT X e (tTest3 t) :=
  (pt_val h he).imp fun σ H R h => test_low (t2 := low X.K t) (fun R' q => q) h

/-! and, or, not, if -/
def tAnd3 (t u : TT3) : TT3 := fun env S Q => t env S fun c S1 => if c = true then u env S1 Q else Q false S1
def tOr3 (t u : TT3) : TT3 := fun env S Q => t env S fun c S1 => if c = true then Q true S1 else u env S1 Q
def tNot3 (t : TT3) : TT3 := fun env S Q => t env S fun c S1 => Q (!c) S1
variable {tA tB' : TT3} {rest : List Expr}
theorem qw_and1 (ha : QT X a tA) : QW X (.BoolOp .And [a] pos) tA := pw_and1 ha
theorem qw_or1 (ha : QT X a tA) : QW X (.BoolOp .Or [a] pos) tA := pw_or1 ha
theorem qw_and (ha : QT X a tA) (hb : QW X (.BoolOp .And (b :: rest) pos) tB') : QW X (.BoolOp .And (a :: b :: rest) pos) (tAnd3 tA tB') := (pw_and ha hb).imp fun σ H R ⟨w, env, S, Q, r0, en, t, q⟩ => by
  refine ⟨w, env, S, _, r0, en, t, fun w1 c H1 S1 e1 r1 t1 => ?_⟩
  cases c with
  | true =>
    rw [if_pos rfl] at t1 ⊢
    exact ⟨w1, env, S1, Q, r1, en.mono e1, t1, q.mono e1⟩
  | false =>
    rw [if_neg Bool.false_ne_true] at t1 ⊢
    exact q w1 false H1 S1 e1 r1 t1
theorem qw_or (ha : QT X a tA) (hb : QW X (.BoolOp .Or (b :: rest) pos) tB') : QW X (.BoolOp .Or (a :: b :: rest) pos) (tOr3 tA tB') := (pw_or ha hb).imp fun σ H R ⟨w, env, S, Q, r0, en, t, q⟩ => by
  refine ⟨w, env, S, _, r0, en, t, fun w1 c H1 S1 e1 r1 t1 => ?_⟩
  cases c with
  | false =>
    rw [if_neg Bool.false_ne_true] at t1 ⊢
    exact ⟨w1, env, S1, Q, r1, en.mono e1, t1, q.mono e1⟩
  | true =>
    rw [if_pos rfl] at t1 ⊢
    exact q w1 true H1 S1 e1 r1 t1
theorem qt_w (h : QW X a tA) : QT X a tA := PW.pt h
theorem qt_not (ha : QT X a tA) : QT X (.UnaryOp .Not a pos) (tNot3 tA) := (pt_not ha).imp fun σ H R ⟨w, env, S, Q, r0, en, t, q⟩ =>
  ⟨w, env, S, _, r0, en, t, fun w1 c H1 S1 e1 r1 t1 => q w1 (!c) H1 S1 e1 r1 t1⟩
def tAndV3 (ta tb : TE3) : TE3 := fun env S Q => ta env S fun x S1 => match x with
  | .p (.bool k) => if k = true then tb env S1 Q else Q (.p (.bool false)) S1
  | _ => False
def tOrV3 (ta tb : TE3) : TE3 := fun env S Q => ta env S fun x S1 => match x with
  | .p (.bool k) => if k = true then Q (.p (.bool true)) S1 else tb env S1 Q
  | _ => False
def tNotV3 (ta : TE3) : TE3 := fun env S Q => ta env S fun x S1 => match x with
  | .p (.bool c) => Q (.p (.bool (!c))) S1
  | _ => False
theorem qe_one {op} {t : TE3} (h : QE X a t) : QE X (.BoolOp op [a] pos) t := pe_one h
theorem qe_and (ha : QE X a ta) (hb : QE X (.BoolOp .And (b :: rest) pos) tb) : QE X (.BoolOp .And (a :: b :: rest) pos) (tAndV3 ta tb) := (pe_and ha hb).imp fun σ H R ⟨w, env, S, Q, r0, en, t, q⟩ => by
  refine ⟨w, env, S, _, r0, en, t, fun w1 v1 d1 H1 S1 e1 r1 p1 t1 => ?_⟩
  cases d1 with
  | loc n => exact t1.elim
  | p d =>
    cases d with
    | bool k =>
      refine ⟨k, dp_bl p1, ?_⟩
      cases k with
      | true =>
        simp only [if_true] at t1
        rw [if_pos rfl]
        exact ⟨w1, env, S1, Q, r1, en.mono e1, t1, q.mono e1⟩
      | false =>
        simp only [Bool.false_eq_true, if_false] at t1
        rw [if_neg Bool.false_ne_true]
        exact q w1 _ _ H1 S1 e1 r1 rep_bl t1
    | _ => exact t1.elim
theorem qe_or (ha : QE X a ta) (hb : QE X (.BoolOp .Or (b :: rest) pos) tb) : QE X (.BoolOp .Or (a :: b :: rest) pos) (tOrV3 ta tb) := (pe_or ha hb).imp fun σ H R ⟨w, env, S, Q, r0, en, t, q⟩ => by
  refine ⟨w, env, S, _, r0, en, t, fun w1 v1 d1 H1 S1 e1 r1 p1 t1 => ?_⟩
  cases d1 with
  | loc n => exact t1.elim
  | p d =>
    cases d with
    | bool k =>
      refine ⟨k, dp_bl p1, ?_⟩
      cases k with
      | false =>
        simp only [Bool.false_eq_true, if_false] at t1
        rw [if_neg Bool.false_ne_true]
        exact ⟨w1, env, S1, Q, r1, en.mono e1, t1, q.mono e1⟩
      | true =>
        simp only [if_true] at t1
        rw [if_pos rfl]
        exact q w1 _ _ H1 S1 e1 r1 rep_bl t1
    | _ => exact t1.elim
theorem qe_not (ha : QE X a ta) : QE X (.UnaryOp .Not a pos) (tNotV3 ta) := (pe_not ha).imp fun σ H R ⟨w, env, S, Q, r0, en, t, q⟩ => by
  refine ⟨w, env, S, _, r0, en, t, fun w1 v1 d1 H1 S1 e1 r1 p1 t1 => ?_⟩
  cases d1 with
  | loc n => exact t1.elim
  | p d =>
    cases d with
    | bool k => exact ⟨k, dp_bl p1, q w1 _ _ H1 S1 e1 r1 rep_bl t1⟩
    | _ => exact t1.elim
def tIf3 (t : TT3) (ta tb : TE3) : TE3 := fun env S Q => t env S fun c S1 => if c = true then ta env S1 Q else tb env S1 Q
theorem qe_if (hc : QT X c tA) (ha : QE X a ta) (hb : QE X b tb) : QE X (.IfExp c a b pos) (tIf3 tA ta tb) := (pe_ifExp hc ha hb).imp fun σ H R ⟨w, env, S, Q, r0, en, t, q⟩ => by
  refine ⟨w, env, S, _, r0, en, t, fun w1 c H1 S1 e1 r1 t1 => ?_⟩
  cases c with
  | true =>
    rw [if_pos rfl] at t1 ⊢
    exact ⟨w1, env, S1, Q, r1, en.mono e1, t1, q.mono e1⟩
  | false =>
    rw [if_neg Bool.false_ne_true] at t1 ⊢
    exact ⟨w1, env, S1, Q, r1, en.mono e1, t1, q.mono e1⟩

/-! ### arguments, calls of built-ins, displays -/
theorem qa_nil : QA X [] tNil3 := pa_nil.imp fun σ H R ⟨w, env, S, Q, r0, en, t, q⟩ => q w [] [] H S (Ex3.refl w) r0 trivial t
theorem qa_cons (ha : QE X a ta) (hr : QA X es tr) (hs : starEach (a :: es) X.env = (false, eval a X.env) :: starEach es X.env := by rfl) : QA X (a :: es) (tCons3 ta tr) := (pa_cons ha hr hs).imp fun σ H R ⟨w, env, S, Q, r0, en, t, q⟩ => by
  refine ⟨w, env, S, _, r0, en, t, fun w1 v1 d1 H1 S1 e1 r1 p1 t1 => ?_⟩
  refine ⟨w1, env, S1, _, r1, en.mono e1, t1, fun w2 vs ds H2 S2 e2 r2 p2 t2 => ?_⟩
  exact q w2 (v1 :: vs) (d1 :: ds) H2 S2 (e1.trans e2) r2 ⟨p1.mono e2, p2⟩ t2
theorem lowCB {K : PySem.W.Frag} {r : C3} {t : TA3} {σ : L2.St} {H : Hp} {R : VK} (h : low K (tCB3 r t) σ H R) : tCB (lowC K r) (lowA K t) σ H R := by
  obtain ⟨w, env, S, Q, r0, en, t, q⟩ := h
  exact ⟨w, env, S, _, r0, en, t, fun w1 vs ds H1 S1 e1 r1 p1 t1 => ⟨w1, S1, ds, Q, r1, p1, t1, q.mono e1⟩⟩
theorem qe_cb {id : String} {x : Str} {p : Pos} {r : C3} (hc : CQ X (.builtin id) r) (hg : Gl X x) (hm : X.mg x = none) (hv : bootBuiltins x = some (.builtin id)) (ha : QA X (a :: es) tr) (hn : x ≠ "__name__" := by decide) (hdb : (x == ("__debug__" : Str)) = false := by decide)
    (he : starEach (a :: es) X.env = (false, eval a X.env) :: starEach es X.env := by rfl) (hpl : (backTo pos (starEach es X.env)).any (·.1) = false := by rfl) : QE X (.Call (.Name x p) (a :: es) [] pos) (tCB3 r tr) :=
  (pe_callB hc hg hm hv ha hn hdb he hpl).imp fun _ _ _ => lowCB
theorem qe_ty {T : String} {x : Str} {p : Pos} {r : C3} (hc : CQ X (.type T) r) (hg : Gl X x) (hm : X.mg x = none) (hv : bootBuiltins x = some (.type T)) (ha : QA X (a :: es) tr) (hn : x ≠ "__name__" := by decide) (hdb : (x == ("__debug__" : Str)) = false := by decide)
    (he : starEach (a :: es) X.env = (false, eval a X.env) :: starEach es X.env := by rfl) (hpl : (backTo pos (starEach es X.env)).any (·.1) = false := by rfl) : QE X (.Call (.Name x p) (a :: es) [] pos) (tCB3 r tr) :=
  (pe_callTy hc hg hm hv ha hn hdb he hpl).imp fun _ _ _ => lowCB
end
def pures : List D → Option (List PyData)
  | [] => some []
  | .p d :: r => match pures r with
    | some ds => some (d :: ds)
    | none => none
  | _ :: _ => none
section
variable {K : PySem.W.Frag} {w : W3}
theorem pures_all : ∀ {vs : List V} {ds : List D} {es : List PyData}, RepDs K w vs ds → pures ds = some es → DpAll K w.h vs es
  | [], [], es, _, h => by cases h; exact .nil
  | v :: vs, .p d :: ds, es, r, h => by
    unfold pures at h
    cases q : pures ds with
    | none => rw [q] at h; cases h
    | some fs =>
      rw [q] at h
      cases h
      exact .cons r.1 (pures_all r.2 q)
  | v :: vs, .loc n :: ds, es, r, h => by unfold pures at h; cases h
  | [], _ :: _, _, r, _ => r.elim
  | _ :: _, [], _, r, _ => r.elim
end
def tTup3 (t : TA3) : TE3 := fun env S Q => t env S fun ds S1 => match pures ds with
  | some es => es.length ≤ sizeLine ∧ Q (.p (.tuple es)) S1
  | none => False
section
variable {X : Cx} {es : List Expr} {tr : TA3} {pos : Pos}
theorem qe_tup {x1} (h : QA X es tr) : QE X (.Tuple es x1 pos) (tTup3 tr) := (pe_tup h).imp fun σ H R ⟨w, env, S, Q, r0, en, t, q⟩ => by
  refine ⟨w, env, S, _, r0, en, t, fun w1 vs ds H1 S1 e1 r1 p1 t1 => ?_⟩
  cases hp : pures ds with
  | none => rw [hp] at t1; exact t1.elim
  | some xs =>
    rw [hp] at t1
    have ha := pures_all p1 hp
    have hl := DpAll.length ha
    refine ⟨by rw [hl]; exact t1.1, fun p hn => ?_⟩
    obtain ⟨r2, e2⟩ := r1.frz (u := .tup vs) hn (by show vs.length ≤ _; rw [hl]; exact t1.1)
    exact q _ (.ref p) (.p (.tuple xs)) _ S1 (e1.trans e2) r2 (Dp.tup (.inl (.inl upd_same)) (dpAll_mono e2.h xs vs ha)) t1.2
/-! ### an expression that makes a new list: it stays as it is, or it is an object of the store -/
abbrev TN3 := E3 → S3 → (List PyData → S3 → Prop) → Prop
def EndNew (K : PySem.W.Frag) (w : W3) (Q : List PyData → S3 → Prop) (R : VK) : Prop := ∀ w' p xs ds H' S', Ex3 w w' → Rel3 K w' H' S' → H' p = none → DpAll K w'.h xs ds → ds.length ≤ sizeLine → Q ds S' → R (.ref p) (upd H' p (.lst xs))
def lowN (K : PySem.W.Frag) (t : TN3) : TE := fun σ H R => ∃ w env S Q, Rel3 K w H S ∧ EnvR K w σ env ∧ t env S Q ∧ EndNew K w Q R
abbrev QN (X : Cx) (e : Expr) (t : TN3) : Prop := PE X e (lowN X.K t)
def tPure (t : TN3) : TE3 := fun env S Q => t env S fun ds S1 => Q (.p (.list ds)) S1
def tOwn (t : TN3) : TE3 := fun env S Q => t env S fun ds S1 => Q (.loc S1.length) (S1 ++ [some (.lst ds)])
theorem qn_pure {e : Expr} {t : TN3} (h : QN X e t) : QE X e (tPure t) := L2.PE.imp h fun σ H R ⟨w, env, S, Q, r0, en, t, q⟩ => by
  refine ⟨w, env, S, _, r0, en, t, fun w1 p xs ds H1 S1 e1 r1 hn ha hz t1 => ?_⟩
  have hl := DpAll.length ha
  obtain ⟨r2, e2⟩ := r1.frz (u := .lst xs) hn (by show xs.length ≤ _; rw [hl]; exact hz)
  exact q _ (.ref p) (.p (.list ds)) _ S1 (e1.trans e2) r2 (Dp.lst (.inl (.inl upd_same)) (dpAll_mono e2.h ds xs ha)) t1
theorem qn_own {e : Expr} {t : TN3} (h : QN X e t) : QE X e (tOwn t) := L2.PE.imp h fun σ H R ⟨w, env, S, Q, r0, en, t, q⟩ => by
  refine ⟨w, env, S, _, r0, en, t, fun w1 p xs ds H1 S1 e1 r1 hn ha hz t1 => ?_⟩
  obtain ⟨r2, e2⟩ := r1.push (u := .lst xs) (o := .lst ds) hn ⟨xs, rfl, ha, hz⟩
  refine q _ (.ref p) (.loc S1.length) _ _ (e1.trans e2) r2 ⟨p, ?_, rfl⟩ t1
  show (w1.al ++ [p])[S1.length]? = some p
  rw [← r1.len, List.getElem?_append_right (Nat.le_refl _)]
  simp
def tLst3 (t : TA3) : TN3 := fun env S Q => t env S fun ds S1 => match pures ds with
  | some es => es.length ≤ sizeLine ∧ Q es S1
  | none => False
theorem qn_lst (h : QA X es tr) : QN X (.List es pos) (tLst3 tr) := (pe_lst h).imp fun σ H R ⟨w, env, S, Q, r0, en, t, q⟩ => by
  refine ⟨w, env, S, _, r0, en, t, fun w1 vs ds H1 S1 e1 r1 p1 t1 => ?_⟩
  cases hp : pures ds with
  | none => rw [hp] at t1; exact t1.elim
  | some xs =>
    rw [hp] at t1
    have ha := pures_all p1 hp
    have hl := DpAll.length ha
    exact ⟨by rw [hl]; exact t1.1, fun p hn => q w1 p vs xs H1 S1 e1 r1 hn ha t1.1 t1.2⟩
end
end L3

namespace L3
open PySem PySem.Spec PyProof.Rows L2
/-! ### statements -/
section
variable {K : PySem.W.Frag} {w : W3} {H : Hp} {S : S3} {σ : L2.St} {env : E3}
theorem EnvR.put {v : V} {d : D} {i : Nat} (h : EnvR K w σ env) (hi : σ[i]? = some (some v)) (r : RepD K w v d) : EnvR K w σ (set3 env i d) := by
  refine ⟨by rw [set3_length]; exact h.1, fun j e q => ?_⟩
  rw [at3_set] at q
  by_cases hj : j = i ∧ i < env.length
  · rw [if_pos hj] at q
    cases q
    rw [hj.1]
    exact ⟨v, hi, r⟩
  · rw [if_neg hj] at q
    exact h.2 j e q
theorem EndS.at {D3 : N3} {D2 : Ends} (h : EndS K w D3 D2) : EndS K w D3 D2 := h
end
def tNext3 : TS3 := fun D env S => D.nx env S
def tSeq3 (t u : TS3) : TS3 := fun D env S => t { D with nx := fun e s => u D e s } env S
def tDrop3 (te : TE3) : TS3 := fun D env S => te env S fun _ S1 => D.nx env S1
def tRet3 (te : TE3) : TS3 := fun D env S => te env S D.rt
def tRetN3 : TS3 := fun D _ S => D.rt (.p .none) S
def tBreak3 : TS3 := fun D env S => D.bk env S
def tCont3 : TS3 := fun D env S => D.ct env S
def tIfS3 (c : TT3) (t u : TS3) : TS3 := fun D env S => c env S fun b S1 => if b = true then t D env S1 else u D env S1
def tNever3 : TS3 := fun _ _ _ => False
/-- an own list in slot i is said to change no more -/
def tFrz3 (i : Nat) (u : TS3) : TS3 := fun D env S => match at3 env i with
  | some (.loc n) => ∃ ds, S[n]? = some (some (.lst ds)) ∧ u D (set3 env i (.p (.list ds))) (S.set n none)
  | _ => False
section
variable {X : Cx} {st : Stmt} {rest a b : List Stmt} {t u : TS3} {e c : Expr} {te : TE3} {tc : TT3} {pos : Pos}
theorem qss_nil : QSs X [] tNext3 := pss_nil.imp fun D σ H ⟨w, env, S, D3, r, en, t, q⟩ => q.nx w σ H env S (Ex3.refl w) r en t
theorem qss_cons (h1 : QS X st t) (h2 : QSs X rest u) : QSs X (st :: rest) (tSeq3 t u) := (pss_cons h1 h2).imp fun D σ H ⟨w, env, S, D3, r, en, t, q⟩ =>
  ⟨w, env, S, _, r, en, t, ⟨fun w1 σ1 H1 env1 S1 e1 r1 en1 t1 => ⟨w1, env1, S1, D3, r1, en1, t1, q.mono e1⟩, q.rt, q.bk, q.ct⟩⟩
theorem qss_one (h1 : QS X st t) : QSs X [st] t := pss_one h1
theorem qs_pass : QS X (.Pass pos) tNext3 := ps_pass.imp fun D σ H ⟨w, env, S, D3, r, en, t, q⟩ => q.nx w σ H env S (Ex3.refl w) r en t
theorem qs_break : QS X (.Break pos) tBreak3 := ps_break.imp fun D σ H ⟨w, env, S, D3, r, en, t, q⟩ => q.bk w σ H env S (Ex3.refl w) r en t
theorem qs_continue : QS X (.Continue pos) tCont3 := ps_continue.imp fun D σ H ⟨w, env, S, D3, r, en, t, q⟩ => q.ct w σ H env S (Ex3.refl w) r en t
theorem qs_expr (he : QE X e te) (hs : swapsWith e none pos.line X.env = pure false := by rfl) : QS X (.Expr e pos) (tDrop3 te) := (ps_expr he hs).imp fun D σ H ⟨w, env, S, D3, r, en, t, q⟩ =>
  ⟨w, env, S, _, r, en, t, fun w1 v d H1 S1 e1 r1 p1 t1 => q.nx w1 σ H1 env S1 e1 r1 (en.mono e1) t1⟩
theorem qs_ret (he : QE X e te) : QS X (.Return (some e) pos) (tRet3 te) := (ps_ret he).imp fun D σ H ⟨w, env, S, D3, r, en, t, q⟩ => ⟨w, env, S, _, r, en, t, q.rt⟩
theorem qs_retN : QS X (.Return none pos) tRetN3 := ps_retN.imp fun D σ H ⟨w, env, S, D3, r, en, t, q⟩ => q.rt w .non (.p .none) H S (Ex3.refl w) r rep_non t
theorem qs_if (hc : QT X c tc) (ha : QSs X a t) (hb : QSs X b u) : QS X (.If c a b pos) (tIfS3 tc t u) := (ps_if hc ha hb).imp fun D σ H ⟨w, env, S, D3, r, en, t, q⟩ => by
  refine ⟨w, env, S, _, r, en, t, fun w1 b H1 S1 e1 r1 t1 => ?_⟩
  cases b with
  | true =>
    rw [if_pos rfl] at t1 ⊢
    exact ⟨w1, env, S1, D3, r1, en.mono e1, t1, q.mono e1⟩
  | false =>
    rw [if_neg Bool.false_ne_true] at t1 ⊢
    exact ⟨w1, env, S1, D3, r1, en.mono e1, t1, q.mono e1⟩
theorem qs_never : QS X st tNever3 := ps_never.imp fun D σ H ⟨w, env, S, D3, r, en, t, q⟩ => t.elim
theorem qss_never : QSs X rest tNever3 := pss_never.imp fun D σ H ⟨w, env, S, D3, r, en, t, q⟩ => t.elim
theorem qss_frz (i : Nat) (h : QSs X rest u) : QSs X rest (tFrz3 i u) := L2.PSs.imp h fun D σ H ⟨w, env, S, D3, r, en, t, q⟩ => by
  unfold tFrz3 at t
  split at t
  · rename_i n hn
    obtain ⟨ds, hs, t⟩ := t
    obtain ⟨v, hv, a, ha, rfl⟩ := en.2 i _ hn
    obtain ⟨u', r1, e1, d1⟩ := r.freeze ha hs
    exact ⟨_, _, _, D3, r1, (en.mono e1).put (d := .p (.list ds)) hv d1, t, q.mono e1⟩
  · exact t.elim
end

/-! ### targets: names, tuples of targets -/
mutual
inductive Tg where
  | nm (i : Nat)
  | tup (ts : Tgs)
inductive Tgs where
  | nil
  | cons (t : Tg) (r : Tgs)
end
def Tgs.len : Tgs → Nat
  | .nil => 0
  | .cons _ r => r.len + 1
mutual
def Tg.slots : Tg → List Nat
  | .nm i => [i]
  | .tup ts => ts.slots
def Tgs.slots : Tgs → List Nat
  | .nil => []
  | .cons t r => t.slots ++ r.slots
end
mutual
def g2 (K : PySem.W.Frag) : Tg → TG
  | .nm i => gName i
  | .tup ts => gTup K ts.len (gs2 K ts)
def gs2 (K : PySem.W.Frag) : Tgs → TGs
  | .nil => gNil
  | .cons t r => gCons (g2 K t) (gs2 K r)
end
mutual
def bind3 : Tg → PyData → E3 → Option E3
  | .nm i, d, env => some (set3 env i (.p d))
  | .tup ts, .tuple ds, env => binds3 ts ds env
  | .tup _, _, _ => none
def binds3 : Tgs → List PyData → E3 → Option E3
  | .nil, [], env => some env
  | .cons t r, d :: ds, env => match bind3 t d env with
    | some env1 => binds3 r ds env1
    | none => none
  | _, _, _ => none
end
abbrev QB (X : Cx) (tg : Expr) (T : Tg) : Prop := PG X tg (g2 X.K T)
abbrev QBs (X : Cx) (tgs : List Expr) (T : Tgs) : Prop := PGs X tgs (gs2 X.K T)
section
variable {X : Cx} {pos : Pos}
theorem qb_nm {i : Nat} {x : Str} (hN : X.N.Nodup) (hi : X.N[i]? = some x) (hx : Loc X.env.scope x) (hf : X.fn x = true ∨ X.env.scope.names.lookup x = some .local := by first | exact .inl rfl | exact .inr rfl | assumption) : QB X (.Name x pos) (.nm i) := pg_name hN hi hx hf
theorem qbs_nil : QBs X [] .nil := pgs_nil
theorem qbs_cons {e : Expr} {es : List Expr} {t : Tg} {r : Tgs} (h1 : QB X e t) (h2 : QBs X es r)
    (hs : (assignEach (e :: es) X.env).map (·.2) = assign e X.env :: (assignEach es X.env).map (·.2) := by rfl) : QBs X (e :: es) (.cons t r) := pgs_cons h1 h2 hs
theorem qb_tup {es : List Expr} {k : Nat} {ts : Tgs} (hc : X.calm = true) (h : QBs X es ts)
    (hn : (assignEach es X.env).length = ts.len := by rfl) (hst : (assignEach es X.env).findIdx? (·.1) = none := by rfl) : QB X (.Tuple es k pos) (.tup ts) := pg_tup hc h hn hst
end
theorem wipe_set_mem {v : Option V} : ∀ (σ : L2.St) (vs : List Nat) (i : Nat), i ∈ vs → wipe (σ.set i v) vs = wipe σ vs
  | σ, [], i, h => by cases h
  | σ, j :: vs, i, h => by
    unfold wipe
    by_cases hm : i ∈ vs
    · rw [wipe_set_mem σ vs i hm]
    · have hij : i = j := by
        rcases List.mem_cons.mp h with e | e
        · exact e
        · exact absurd e hm
      subst hij
      have go : ∀ (vs : List Nat), i ∉ vs → wipe (σ.set i v) vs = (wipe σ vs).set i v := by
        intro vs
        induction vs with
        | nil => intro _; rfl
        | cons k vs ih =>
          intro hk
          unfold wipe
          rw [ih fun z => hk (List.mem_cons_of_mem _ z), List.set_comm _ _ fun z => hk (by rw [z]; exact List.mem_cons_self)]
      rw [go vs hm, List.set_set]
theorem wipe_eq : ∀ (σ σ' : L2.St) (vs : List Nat), wipe σ vs = wipe σ' vs → ∀ (i : Nat) (v : Option V), i ∈ vs → wipe (σ.set i v) vs = wipe σ' vs := fun σ σ' vs h i v hi => (wipe_set_mem σ vs i hi).trans h
section
variable {K : PySem.W.Frag} {w : W3} {H : Hp} {S : S3}
mutual
theorem bind_low (r : Rel3 K w H S) (vs : List Nat) : ∀ (T : Tg) (d : PyData) (v : V) (σ : L2.St) (env env2 : E3), (∀ i ∈ T.slots, i ∈ vs) → EnvR K w σ env → Dp K w.h v d → bind3 T d env = some env2 →
    ∀ R : L2.St → Hp → Prop, (∀ σ', EnvR K w σ' env2 → wipe σ' vs = wipe σ vs → R σ' H) → g2 K T v σ H R
  | .nm i, d, v, σ, env, env2, hs, en, dp, hb, R, hR => by
    unfold bind3 at hb
    cases hb
    unfold g2
    exact hR _ (en.set i dp) (wipe_set_mem σ vs i (hs i (by simp [Tg.slots])))
  | .tup ts, .tuple ds, v, σ, env, env2, hs, en, dp, hb, R, hR => by
    unfold bind3 at hb
    cases dp with
    | tup hq ha =>
      unfold g2
      refine ⟨_, _, rfl, Same.sqT r.sub hq, ?_, binds_low r vs ts ds _ σ env env2 (fun i hi => hs i (by unfold Tg.slots; exact hi)) en ha hb R hR⟩
      rw [DpAll.length ha]
      exact binds_len ts ds env env2 hb
  | .tup _, .none, v, σ, env, env2, hs, en, dp, hb, R, hR => by simp [bind3] at hb
  | .tup _, .bool _, v, σ, env, env2, hs, en, dp, hb, R, hR => by simp [bind3] at hb
  | .tup _, .int _, v, σ, env, env2, hs, en, dp, hb, R, hR => by simp [bind3] at hb
  | .tup _, .str _, v, σ, env, env2, hs, en, dp, hb, R, hR => by simp [bind3] at hb
  | .tup _, .list _, v, σ, env, env2, hs, en, dp, hb, R, hR => by simp [bind3] at hb
  | .tup _, .dict _, v, σ, env, env2, hs, en, dp, hb, R, hR => by simp [bind3] at hb
theorem binds_low (r : Rel3 K w H S) (vs : List Nat) : ∀ (T : Tgs) (ds : List PyData) (us : List V) (σ : L2.St) (env env2 : E3), (∀ i ∈ T.slots, i ∈ vs) → EnvR K w σ env → DpAll K w.h us ds → binds3 T ds env = some env2 →
    ∀ R : L2.St → Hp → Prop, (∀ σ', EnvR K w σ' env2 → wipe σ' vs = wipe σ vs → R σ' H) → gs2 K T us σ H R
  | .nil, [], us, σ, env, env2, hs, en, dp, hb, R, hR => by
    unfold binds3 at hb
    cases hb
    cases dp
    unfold gs2
    exact ⟨rfl, hR σ en rfl⟩
  | .cons t q, d :: ds, us, σ, env, env2, hs, en, dp, hb, R, hR => by
    unfold binds3 at hb
    cases h1 : bind3 t d env with
    | none => rw [h1] at hb; cases hb
    | some env1 =>
      rw [h1] at hb
      cases dp with
      | cons dp1 dp2 =>
        unfold gs2
        refine ⟨_, _, rfl, bind_low r vs t d _ σ env env1 (fun i hi => hs i (by unfold Tgs.slots; exact List.mem_append_left _ hi)) en dp1 h1 _ fun σ' en' hw => ?_⟩
        exact binds_low r vs q ds _ σ' env1 env2 (fun i hi => hs i (by unfold Tgs.slots; exact List.mem_append_right _ hi)) en' dp2 hb R fun σ'' en'' hw' => hR σ'' en'' (hw'.trans hw)
  | .nil, _ :: _, us, σ, env, env2, hs, en, dp, hb, R, hR => by simp [binds3] at hb
  | .cons _ _, [], us, σ, env, env2, hs, en, dp, hb, R, hR => by simp [binds3] at hb
theorem binds_len : ∀ (T : Tgs) (ds : List PyData) (env env2 : E3), binds3 T ds env = some env2 → ds.length = T.len
  | .nil, [], _, _, _ => rfl
  | .cons t q, d :: ds, env, env2, hb => by
    unfold binds3 at hb
    cases h1 : bind3 t d env with
    | none => rw [h1] at hb; cases hb
    | some env1 =>
      rw [h1] at hb
      show ds.length + 1 = q.len + 1
      rw [binds_len q ds env1 env2 hb]
  | .nil, _ :: _, env, env2, hb => by simp [binds3] at hb
  | .cons _ _, [], env, env2, hb => by simp [binds3] at hb
end
end
/-- target = e, a target of names -/
def tAsgT3 (te : TE3) (T : Tg) : TS3 := fun D env S => te env S fun x S1 => match x with
  | .p d => match bind3 T d env with
    | some env2 => D.nx env2 S1
    | none => False
  | _ => False
/-- name = e -/
def tSet3 (i : Nat) (te : TE3) : TS3 := fun D env S => te env S fun x S1 => D.nx (set3 env i x) S1
section
variable {X : Cx} {e tg : Expr} {te : TE3} {T : Tg} {pos : Pos}
theorem qs_asgT (he : QE X e te) (hg : QB X tg T) (hs : swapsWithSole [tg] e pos.line X.env = pure false := by rfl) (hw : swappedStores [tg] e X.env = pure none := by rfl)
    (h1 : (assignEach [tg] X.env).map (·.2) = [assign tg X.env] := by rfl) : QS X (.Assign [tg] e pos) (tAsgT3 te T) := (ps_asg he hg hs hw h1).imp fun D σ H ⟨w, env, S, D3, r, en, t, q⟩ => by
  refine ⟨w, env, S, _, r, en, t, fun w1 v d H1 S1 e1 r1 p1 t1 => ?_⟩
  cases d with
  | loc n => exact t1.elim
  | p d =>
    cases hb : bind3 T d env with
    | none =>
      simp only [hb] at t1
    | some env2 =>
      simp only [hb] at t1
      exact bind_low r1 T.slots T d v σ env env2 (fun _ h => h) (en.mono e1) p1 hb _ fun σ' en' _ => q.nx w1 σ' H1 env2 S1 e1 r1 en' t1
theorem qs_set {i : Nat} {x : Str} {pos' : Pos} (hN : X.N.Nodup) (hi : X.N[i]? = some x) (hx : Loc X.env.scope x) (he : QE X e te) (hs : swapsWith e (some (.Name x pos')) pos.line X.env = pure false := by rfl) (hf : X.fn x = true ∨ X.env.scope.names.lookup x = some .local := by first | exact .inl rfl | exact .inr rfl | assumption) :
    QS X (.Assign [.Name x pos'] e pos) (tSet3 i te) := (ps_set hN hi hx he hs hf).imp fun D σ H ⟨w, env, S, D3, r, en, t, q⟩ =>
  ⟨w, env, S, _, r, en, t, fun w1 v d H1 S1 e1 r1 p1 t1 => q.nx w1 _ H1 _ S1 e1 r1 ((en.mono e1).set i p1) t1⟩
/-- a, b = x, y -/
def tPr3 (i j : Nat) (ta : TA3) : TS3 := fun D env S => ta env S fun ds S1 => match ds with
  | [x, y] => D.nx (set3 (set3 env i x) j y) S1
  | _ => False
theorem qs_par {i j : Nat} {x y : Str} {a b : Expr} {ta : TA3} {px py pt : Pos} {kt k2 pt2} (hc : X.calm = true) (hN : X.N.Nodup) (hi : X.N[i]? = some x) (hj : X.N[j]? = some y) (hij : i ≠ j)
    (hx : X.env.scope.names.lookup x = some .local) (hy : X.env.scope.names.lookup y = some .local) (ha : QA X [a, b] ta)
    (hw : swappedStores [.Tuple [.Name x px, .Name y py] kt pt] (.Tuple [a, b] k2 pt2) X.env = pure (some [x, y]))
    (hs : swapsWithSole [.Tuple [.Name x px, .Name y py] kt pt] (.Tuple [a, b] k2 pt2) pos.line X.env = pure false := by rfl) :
    QS X (.Assign [.Tuple [.Name x px, .Name y py] kt pt] (.Tuple [a, b] k2 pt2) pos) (tPr3 i j ta) := (ps_par hc hN hi hj hij hx hy ha hw hs).imp fun D σ H ⟨w, env, S, D3, r, en, t, q⟩ => by
  refine ⟨w, env, S, _, r, en, t, fun w1 vs ds H1 S1 e1 r1 p1 t1 => ?_⟩
  match vs, ds, p1, t1 with
  | [v, u], [x, y], p1, t1 =>
    exact ⟨v, u, rfl, q.nx w1 _ H1 _ S1 e1 r1 (((en.mono e1).set i p1.1).set j p1.2.1) t1⟩
  | [], [x, y], p1, _ => exact p1.elim
  | [_], [x, y], p1, _ => exact p1.2.elim
  | _ :: _ :: _ :: _, [x, y], p1, _ => exact p1.2.2.elim
end

/-! ### what a loop walks -/
def tSeqI3 (te : TE3) : TI3 := fun env S Q => te env S fun x S1 => match x with
  | .p (.list ds) => Q ds (fun _ => True) S1
  | .p (.tuple ds) => Q ds (fun _ => True) S1
  | .loc n => ∃ ds, S1[n]? = some (some (.lst ds)) ∧ Q ds (fun S => S[n]? = some (some (.lst ds))) S1
  | _ => False
def rng (lo : Int) (n : Nat) : List PyData := (List.range n).map fun i => .int (lo + (i : Nat))
theorem rng_get {lo : Int} {n i : Nat} {x : PyData} (h : (rng lo n)[i]? = some x) : i < n ∧ x = .int (lo + (i : Nat)) := by
  unfold rng at h
  rw [List.getElem?_map] at h
  cases q : (List.range n)[i]? with
  | none => rw [q] at h; cases h
  | some j =>
    rw [q] at h
    cases h
    obtain ⟨h1, h2⟩ := List.getElem?_eq_some_iff.mp q
    rw [List.getElem_range] at h2
    rw [List.length_range] at h1
    exact ⟨h1, by rw [h2]⟩
theorem rng_len (lo : Int) (n : Nat) : (rng lo n).length = n := by unfold rng; rw [List.length_map, List.length_range]
def tRng1 (ta : TA3) : TI3 := fun env S Q => ta env S fun ds S1 => match ds with
  | [.p (.int n)] => (-4611686018427387904 ≤ n ∧ n ≤ 16777216) ∧ Q (rng 0 n.toNat) (fun _ => True) S1
  | _ => False
def tRng2 (ta : TA3) : TI3 := fun env S Q => ta env S fun ds S1 => match ds with
  | [.p (.int a), .p (.int b)] => (-16777216 ≤ a ∧ a ≤ 16777216 ∧ -16777216 ≤ b ∧ b ≤ 16777216 ∧ b - a ≤ 16777216) ∧ Q (rng a (b - a).toNat) (fun _ => True) S1
  | _ => False
/-- lists of pairs -/
def zip3 (xs ys : List PyData) : List PyData := (xs.zip ys).map fun p => .tuple [p.1, p.2]
def enum3 (xs : List PyData) : List PyData := xs.zipIdx.map fun p => .tuple [.int (p.2 : Nat), p.1]
section
variable {K : PySem.W.Frag} {w : W3} {H : Hp} {S : S3}
theorem itr_list {a : Addr} {ds : List PyData} (h : Dp K w.h (.ref a) (.list ds)) : ItR K w (Itl K a) ds fun _ => True := fun w' H S e r _ => by
  have h' := dp_mono e.h _ _ h
  cases h' with
  | lst hq ha =>
    have hl := DpAll.length ha
    have hq' := L2.Same.seq r.sub hq
    refine ⟨fun i hi => ⟨_, hq', by omega⟩, fun i x hx => ?_⟩
    obtain ⟨v, h1, h2⟩ := DpAll.get ha hx
    refine ⟨⟨_, v, hq', h1⟩, fun u H' y => ?_⟩
    obtain ⟨rfl, y⟩ := y
    have := (y _ hq').symm.trans h1
    cases this
    exact ⟨w', Ex3.refl _, r, h2⟩
theorem itr_tup {a : Addr} {ds : List PyData} (h : Dp K w.h (.ref a) (.tuple ds)) : ItR K w (Itt K a) ds fun _ => True := fun w' H S e r _ => by
  have h' := dp_mono e.h _ _ h
  cases h' with
  | tup hq ha =>
    have hl := DpAll.length ha
    have hq' := Same.sqT r.sub hq
    refine ⟨fun i hi => ⟨_, hq', by omega⟩, fun i x hx => ?_⟩
    obtain ⟨v, h1, h2⟩ := DpAll.get ha hx
    refine ⟨⟨_, v, hq', h1⟩, fun u H' y => ?_⟩
    obtain ⟨rfl, y⟩ := y
    have := (y _ hq').symm.trans h1
    cases this
    exact ⟨w', Ex3.refl _, r, h2⟩
theorem itr_loc {a : Addr} {n : Nat} {ds : List PyData} (ha : w.al[n]? = some a) : ItR K w (Itl K a) ds fun S => S[n]? = some (some (.lst ds)) := fun w' H S e r hs => by
  obtain ⟨_, u, hu, xs, rfl, hd, _⟩ := r.live n a _ (e.get ha) hs
  have hl := DpAll.length hd
  have hq : SqL K H a xs := .inl (.inl hu)
  refine ⟨fun i hi => ⟨_, hq, by omega⟩, fun i x hx => ?_⟩
  obtain ⟨v, h1, h2⟩ := DpAll.get hd hx
  refine ⟨⟨_, v, hq, h1⟩, fun u H' y => ?_⟩
  obtain ⟨rfl, y⟩ := y
  have := (y _ hq).symm.trans h1
  cases this
  exact ⟨w', Ex3.refl _, r, h2⟩
theorem itr_rng {lo : Int} {n : Nat} : ItR K w (Itr lo n) (rng lo n) fun _ => True := fun w' H S e r _ => by
  refine ⟨fun i hi => by rw [rng_len] at hi; exact hi, fun i x hx => ?_⟩
  obtain ⟨h1, rfl⟩ := rng_get hx
  refine ⟨h1, fun v H' y => ?_⟩
  obtain ⟨rfl, rfl⟩ := y
  exact ⟨w', Ex3.refl _, r, .int _⟩
theorem len_list {a : Addr} {ds : List PyData} (r : Rel3 K w H S) (h : Dp K w.h (.ref a) (.list ds)) : ds.length ≤ sizeLine := by
  cases h with
  | lst hq ha =>
    rw [← DpAll.length ha]
    exact r.szL hq
theorem len_tup {a : Addr} {ds : List PyData} (r : Rel3 K w H S) (h : Dp K w.h (.ref a) (.tuple ds)) : ds.length ≤ sizeLine := by
  cases h with
  | tup hq ha =>
    rw [← DpAll.length ha]
    exact r.szT hq
theorem dp_list_ref {h : Hp} {v : V} {ds : List PyData} (q : Dp K h v (.list ds)) : ∃ a xs, v = .ref a ∧ SqL K h a xs ∧ DpAll K h xs ds := by
  cases q with
  | lst hq ha => exact ⟨_, _, rfl, hq, ha⟩
theorem dp_tup_ref {h : Hp} {v : V} {ds : List PyData} (q : Dp K h v (.tuple ds)) : ∃ a xs, v = .ref a ∧ SqT K h a xs ∧ DpAll K h xs ds := by
  cases q with
  | tup hq ha => exact ⟨_, _, rfl, hq, ha⟩
end
section
variable {X : Cx} {tg l a b : Expr} {te : TE3} {ta : TA3} {p pos : Pos}
/-- a list or a tuple, walked -/
def iSeq (K : PySem.W.Frag) (tl : TE) : TI := fun σ H R => tl σ H fun x H1 => ∃ a, x = .ref a ∧ (((∃ xs, SqL K H1 a xs) ∧ R (Itl K a) H1) ∨ ((∃ xs, SqT K H1 a xs) ∧ R (Itt K a) H1))
theorem pi_seq {tl : TE} (hl : PE X l tl) : PI X tg l (iSeq X.K tl) := by
  refine ⟨fun pins s σ H R I h => ?_⟩
  refine thn (hl.run pins s σ H _ I h) fun v s1 ⟨x, H1, I1, r1, q1⟩ => ?_
  obtain ⟨a, e, q1⟩ := q1
  subst e
  cases r1
  rcases q1 with ⟨⟨xs, hq⟩, q⟩ | ⟨⟨xs, hq⟩, q⟩
  · obtain ⟨its, rv, p, hz⟩ := I1.list hq
    refine wpAny_pyIter_list p.isList ?_
    refine ⟨s1.heap.objs.size, [s1.heap.objs.size], _, _, H1, rfl, I1.kept (t' := s1.toks) fun b o e => Heap.get?_push_of_some _ e, turn_list a _, ⟨_, Heap.get?_push_size _ rfl, rfl, rfl⟩, fun b hb => ?_, q⟩
    have e : b = s1.heap.objs.size := by simpa using hb
    subst e
    exact I1.fpOk (Nat.le_refl _) (I1.hok.fresh (Nat.le_refl _))
  · obtain ⟨its, rv, p, hz⟩ := I1.tuple hq
    refine wpAny_pyIter_tuple (show s1.heap.IsTuple a its.toArray from p) ?_
    refine ⟨s1.heap.objs.size, [s1.heap.objs.size], _, _, H1, rfl, I1.kept (t' := s1.toks) fun b o e => Heap.get?_push_of_some _ e, turn_tuple a _, ⟨_, Heap.get?_push_size _ rfl, rfl, rfl⟩, fun b hb => ?_, q⟩
    have e : b = s1.heap.objs.size := by simpa using hb
    subst e
    exact I1.fpOk (Nat.le_refl _) (I1.hok.fresh (Nat.le_refl _))
theorem qi_seq (hl : QE X l te) : QI X tg l (tSeqI3 te) := (pi_seq hl).imp fun σ H R ⟨w, env, S, Q, r0, en, t, q⟩ => by
  refine ⟨w, env, S, _, r0, en, t, fun w1 v d H1 S1 e1 r1 p1 t1 => ?_⟩
  match d, p1, t1 with
  | .p (.list ds), p1, t1 =>
    obtain ⟨a, xs, rfl, hq, ha⟩ := dp_list_ref p1
    exact ⟨a, rfl, .inl ⟨⟨xs, L2.Same.seq r1.sub hq⟩, q w1 _ H1 S1 ds _ e1 r1 (itr_list p1) (len_list r1 p1) t1⟩⟩
  | .p (.tuple ds), p1, t1 =>
    obtain ⟨a, xs, rfl, hq, ha⟩ := dp_tup_ref p1
    exact ⟨a, rfl, .inr ⟨⟨xs, Same.sqT r1.sub hq⟩, q w1 _ H1 S1 ds _ e1 r1 (itr_tup p1) (len_tup r1 p1) t1⟩⟩
  | .loc n, p1, t1 =>
    obtain ⟨ds, hs, t1⟩ := t1
    obtain ⟨a, ha, rfl⟩ := p1
    obtain ⟨_, u, hu, xs, rfl, hd, hz⟩ := r1.live n a _ ha hs
    exact ⟨a, rfl, .inl ⟨⟨xs, .inl (.inl hu)⟩, q w1 _ H1 S1 ds _ e1 r1 (itr_loc ha) hz t1⟩⟩
theorem qi_range1 (hg : Gl X "range") (hm : X.mg "range" = none) (ha : QA X [a] ta) (hs : starEach [a] X.env = [(false, eval a X.env)] := by rfl) : QI X tg (.Call (.Name "range" p) [a] [] pos) (tRng1 ta) := (pi_range1 hg hm ha hs).imp fun σ H R ⟨w, env, S, Q, r0, en, t, q⟩ => by
  refine ⟨w, env, S, _, r0, en, t, fun w1 vs ds H1 S1 e1 r1 p1 t1 => ?_⟩
  match vs, ds, p1, t1 with
  | [v], [.p (.int n)], p1, t1 =>
    have := dp_int p1.1
    subst this
    have hz : sizeLine = 16777216 := sizeLine_eq
    refine ⟨n, rfl, by omega, by omega, q w1 _ H1 S1 _ _ e1 r1 itr_rng (by rw [rng_len]; omega) t1.2⟩
  | [], [.p (.int n)], p1, _ => exact p1.elim
  | _ :: _ :: _, [.p (.int n)], p1, _ => exact p1.2.elim
theorem qi_range2 (hg : Gl X "range") (hm : X.mg "range" = none) (ha : QA X [a, b] ta) (hs : starEach [a, b] X.env = [(false, eval a X.env), (false, eval b X.env)] := by rfl) (hs2 : starEach [b] X.env = [(false, eval b X.env)] := by rfl) : QI X tg (.Call (.Name "range" p) [a, b] [] pos) (tRng2 ta) := (pi_range2 hg hm ha hs hs2).imp fun σ H R ⟨w, env, S, Q, r0, en, t, q⟩ => by
  refine ⟨w, env, S, _, r0, en, t, fun w1 vs ds H1 S1 e1 r1 p1 t1 => ?_⟩
  match vs, ds, p1, t1 with
  | [v, u], [.p (.int n), .p (.int m)], p1, t1 =>
    have := dp_int p1.1
    subst this
    have := dp_int p1.2.1
    subst this
    have hz : sizeLine = 16777216 := sizeLine_eq
    refine ⟨n, m, rfl, by omega, q w1 _ H1 S1 _ _ e1 r1 itr_rng (by rw [rng_len]; omega) t1.2⟩
  | [], [.p (.int n), .p (.int m)], p1, _ => exact p1.elim
  | [_], [.p (.int n), .p (.int m)], p1, _ => exact p1.2.elim
  | _ :: _ :: _ :: _, [.p (.int n), .p (.int m)], p1, _ => exact p1.2.2.elim
end

/-! ### loops -/
def below (L : Nat) : D → Prop
  | .p _ => True
  | .loc n => n < L
/-- slots are forgotten, the store's last objects too -/
def Fits (env env' : E3) (L : Nat) : Prop := env'.length = env.length ∧ ∀ i d, at3 env' i = some d → at3 env i = some d ∧ below L d
def Wk (n : Nat) (I : E3 → S3 → Prop) : E3 → S3 → Prop := fun env S => I env S ∨ ∃ L env', n ≤ L ∧ Fits env env' L ∧ I env' (S.take L)
theorem wk_low {K : PySem.W.Frag} {w w' : W3} {H : Hp} {S : S3} {σ : L2.St} {env : E3} {n : Nat} {I : E3 → S3 → Prop} (hn : w.al.length ≤ n) (e : Ex3 w w') (r : Rel3 K w' H S) (en : EnvR K w' σ env) (h : Wk n I env S) :
    ∃ w2 env2 S2, Ex3 w w2 ∧ Rel3 K w2 H S2 ∧ EnvR K w2 σ env2 ∧ I env2 S2 := by
  rcases h with h | ⟨L, env', hL, hf, h⟩
  · exact ⟨w', env, S, e, r, en, h⟩
  · refine ⟨⟨w'.al.take L, w'.h, w'.pn⟩, env', _, ⟨⟨?_, e.h⟩, e.pn⟩, r.shrink L, ⟨en.1.trans hf.1.symm, fun i d hd => ?_⟩, h⟩
    · obtain ⟨t, ht⟩ := e.al
      refine ⟨t.take (L - w.al.length), ?_⟩
      show w'.al.take L = _
      rw [ht, List.take_append, List.take_of_length_le (by omega)]
    · obtain ⟨h1, h2⟩ := hf.2 i d hd
      obtain ⟨v, h3, h4⟩ := en.2 i d h1
      refine ⟨v, h3, ?_⟩
      cases d with
      | p d => exact h4
      | loc m =>
        obtain ⟨a, h5, h6⟩ := h4
        exact ⟨a, by show (w'.al.take L)[m]? = _; rw [List.getElem?_take_of_lt h2]; exact h5, h6⟩
def tFor3 (ti : TI3) (T : Tg) (tb : TS3) : TS3 := fun D env S => ti env S fun xs ok S1 => ∃ I : Nat → E3 → S3 → Prop, I 0 env S1 ∧ (∀ i e s, I i e s → ok s) ∧
  (∀ i x e s, xs[i]? = some x → I i e s → match bind3 T x e with
    | some e2 => tb { D with nx := Wk S1.length (I (i + 1)), ct := Wk S1.length (I (i + 1)), bk := D.nx } e2 s
    | none => False) ∧ ∀ e s, I xs.length e s → D.nx e s
section
variable {X : Cx} {tg iter : Expr} {body : List Stmt} {ti : TI3} {T : Tg} {tb : TS3} {tc : TT3} {c : Expr} {pos : Pos}
theorem qs_for (hp : PassesOwn (model X.prog X.w) X.A X.env X.xe) (hc : X.calm = true) (hi : QI X tg iter ti) (hg : QB X tg T) (hb : QSs X body tb)
    (hs : ∀ x, foldedSetIterable iter X.env x = pure x := by intro _; rfl) : QS X (.For tg iter body [] pos) (tFor3 ti T tb) := (ps_for hp hc hi hg hb hs).imp fun D σ H ⟨w, env, S, D3, r0, en, t, q⟩ => by
  refine ⟨w, env, S, _, r0, en, t, fun w1 J H1 S1 xs ok e1 r1 hJ hz t1 => ?_⟩
  obtain ⟨I, h0, hok, hs, hd⟩ := t1
  refine ⟨fun i m σ H => i ≤ xs.length ∧ m = xs.length - i ∧ ∃ w2 e s, Ex3 w1 w2 ∧ Rel3 X.K w2 H s ∧ EnvR X.K w2 σ e ∧ I i e s, ⟨_, Nat.zero_le _, rfl, w1, env, S1, Ex3.refl _, r1, en.mono e1, h0⟩, ?_⟩
  rintro i m σ2 H2 ⟨hi, rfl, w2, e, s, e2, r2, en2, h2⟩
  obtain ⟨hstop, hgo⟩ := hJ w2 H2 s e2.toEx0 r2 (hok i e s h2)
  by_cases hlt : i < xs.length
  · obtain ⟨go, hy⟩ := hgo i xs[i] (List.getElem?_eq_getElem hlt)
    refine .inr ⟨go, fun σ' H' => ∃ w' e' s', Ex3 w1 w' ∧ Rel3 X.K w' H' s' ∧ EnvR X.K w' σ' e' ∧ I (i + 1) e' s', fun σ' H' ⟨w', e', s', a1, a2, a3, a4⟩ => ⟨xs.length - (i + 1), by omega, hlt, rfl, w', e', s', a1, a2, a3, a4⟩, fun x H' y => ?_⟩
    obtain ⟨w3, e3, r3, d3⟩ := hy x H' y
    have step := hs i xs[i] e s (List.getElem?_eq_getElem hlt) h2
    cases hbd : bind3 T xs[i] e with
    | none => rw [hbd] at step; exact step.elim
    | some env3 =>
      rw [hbd] at step
      refine bind_low r3 T.slots T xs[i] x σ2 e env3 (fun _ h => h) (en2.mono e3) d3 hbd _ fun σ3 en3 _ => ?_
      have back : EndN X.K w3 (Wk S1.length (I (i + 1))) fun σ' H' => ∃ w' e' s', Ex3 w1 w' ∧ Rel3 X.K w' H' s' ∧ EnvR X.K w' σ' e' ∧ I (i + 1) e' s' := fun w4 σ4 H4 e4 s4 x4 r4 en4 h4 => by
        obtain ⟨w5, e5, s5, a1, a2, a3, a4⟩ := wk_low (w := w1) (by rw [r1.len]; exact Nat.le_refl _) ((e2.trans e3).trans x4) r4 en4 h4
        exact ⟨w5, e5, s5, a1, a2, a3, a4⟩
      exact ⟨w3, env3, s, _, r3, en3, step, ⟨back, q.rt.mono (((e1.trans e2).trans e3)), q.nx.mono (((e1.trans e2).trans e3)), back⟩⟩
  · have e' : i = xs.length := by omega
    subst e'
    exact .inl ⟨hstop _ (Nat.le_refl _), q.nx w2 σ2 H2 e s (e1.trans e2) r2 en2 (hd e s h2)⟩
def tWhile3 (tc : TT3) (tb : TS3) : TS3 := fun D env S => ∃ I : Nat → E3 → S3 → Prop, (∃ m, I m env S) ∧ ∀ m e s, I m e s → tc e s fun b s1 =>
  if b = true then tb { D with nx := Wk S.length fun e' s' => ∃ m', m' < m ∧ I m' e' s', ct := Wk S.length fun e' s' => ∃ m', m' < m ∧ I m' e' s', bk := D.nx } e s1 else D.nx e s1
theorem qs_while (hp : PassesOwn (model X.prog X.w) X.A X.env X.xe) (hc : QT X c tc) (hb : QSs X body tb) : QS X (.While c body [] pos) (tWhile3 tc tb) := (ps_while hp hc hb).imp fun D σ H ⟨w, env, S, D3, r0, en, t, q⟩ => by
  obtain ⟨I, ⟨m0, h0⟩, ht⟩ := t
  refine ⟨fun m σ H => ∃ w2 e s, Ex3 w w2 ∧ Rel3 X.K w2 H s ∧ EnvR X.K w2 σ e ∧ I m e s, ⟨m0, w, env, S, Ex3.refl _, r0, en, h0⟩, ?_⟩
  rintro m σ2 H2 ⟨w2, e, s, e2, r2, en2, h2⟩
  refine ⟨w2, e, s, _, r2, en2, ht m e s h2, fun w3 b H3 S3 e3 r3 t3 => ?_⟩
  cases b with
  | true =>
    rw [if_pos rfl] at t3 ⊢
    refine ⟨fun σ' H' => ∃ m', m' < m ∧ ∃ w' e' s', Ex3 w w' ∧ Rel3 X.K w' H' s' ∧ EnvR X.K w' σ' e' ∧ I m' e' s', fun σ' H' h => h, ?_⟩
    have back : EndN X.K w3 (Wk S.length fun e' s' => ∃ m', m' < m ∧ I m' e' s') fun σ' H' => ∃ m', m' < m ∧ ∃ w' e' s', Ex3 w w' ∧ Rel3 X.K w' H' s' ∧ EnvR X.K w' σ' e' ∧ I m' e' s' := fun w4 σ4 H4 e4 s4 x4 r4 en4 h4 => by
      obtain ⟨w5, e5, s5, a1, a2, a3, m', hm, a4⟩ := wk_low (w := w) (by rw [r0.len]; exact Nat.le_refl _) ((e2.trans e3).trans x4) r4 en4 h4
      exact ⟨m', hm, w5, e5, s5, a1, a2, a3, a4⟩
    exact ⟨w3, e, S3, _, r3, en2.mono e3, t3, ⟨back, q.rt.mono (e2.trans e3), q.nx.mono (e2.trans e3), back⟩⟩
  | false =>
    rw [if_neg Bool.false_ne_true] at t3 ⊢
    exact q.nx w3 σ2 H3 e S3 (e2.trans e3) r3 (en2.mono e3) t3
end

/-! ### comprehensions -/
def wipe3 (env : E3) : List Nat → E3
  | [] => env
  | v :: vs => clr (wipe3 env vs) v
where clr : E3 → Nat → E3
  | [], _ => []
  | _ :: r, 0 => none :: r
  | x :: r, n + 1 => x :: clr r n
theorem clr_length : ∀ (env : E3) (i : Nat), (wipe3.clr env i).length = env.length
  | [], _ => rfl
  | _ :: _, 0 => rfl
  | _ :: r, n + 1 => congrArg (· + 1) (clr_length r n)
theorem clr_at : ∀ (env : E3) (i j : Nat) (d : D), at3 (wipe3.clr env i) j = some d → at3 env j = some d ∧ j ≠ i
  | [], i, j, d, h => by simp [wipe3.clr, at3] at h
  | x :: r, 0, 0, d, h => by simp [wipe3.clr, at3] at h
  | x :: r, 0, j + 1, d, h => ⟨h, by simp⟩
  | x :: r, i + 1, 0, d, h => ⟨h, by simp⟩
  | x :: r, i + 1, j + 1, d, h => by
    obtain ⟨h1, h2⟩ := clr_at r i j d h
    exact ⟨h1, by omega⟩
theorem wipe3_length (env : E3) : ∀ vs, (wipe3 env vs).length = env.length
  | [] => rfl
  | v :: vs => by unfold wipe3; rw [clr_length, wipe3_length env vs]
theorem wipe3_at (env : E3) : ∀ (vs : List Nat) (j : Nat) (d : D), at3 (wipe3 env vs) j = some d → at3 env j = some d ∧ j ∉ vs
  | [], j, d, h => ⟨h, by simp⟩
  | v :: vs, j, d, h => by
    unfold wipe3 at h
    obtain ⟨h1, h2⟩ := clr_at _ _ _ _ h
    obtain ⟨h3, h4⟩ := wipe3_at env vs j d h1
    exact ⟨h3, by simp only [List.mem_cons, not_or]; exact ⟨h2, h4⟩⟩
theorem EnvR.wipe {K : PySem.W.Frag} {w : W3} {σ : L2.St} {env : E3} (h : EnvR K w σ env) (vs : List Nat) : EnvR K w (wipe σ vs) (wipe3 env vs) := by
  refine ⟨by rw [wipe_length, wipe3_length]; exact h.1, fun i d q => ?_⟩
  obtain ⟨h1, h2⟩ := wipe3_at env vs i d q
  obtain ⟨v, h3, h4⟩ := h.2 i d h1
  refine ⟨v, ?_, h4⟩
  rw [wipe_out h2]
  exact h3
def tLc3 (ti : TI3) (T : Tg) (tt : TT3) (te : TE3) (vs : List Nat) : TN3 := fun env S Q => ti env S fun xs ok S1 => ∃ I : Nat → List PyData → S3 → Prop, I 0 [] S1 ∧ (∀ i acc s, I i acc s → ok s) ∧
  (∀ i x acc s, xs[i]? = some x → I i acc s → match bind3 T x (wipe3 env vs) with
    | some e2 => tt e2 s fun b s1 => if b = true then te e2 s1 fun y s2 => match y with
        | .p d => I (i + 1) (acc ++ [d]) s2
        | _ => False
      else I (i + 1) acc s1
    | none => False) ∧ ∀ acc s, I xs.length acc s → Q acc s
def tYes3 : TT3 := fun _ S Q => Q true S
theorem lc_low {K : PySem.W.Frag} {ti : TI3} {T : Tg} {tt : TT3} {te : TE3} {vs : List Nat} {σ : L2.St} {H : Hp} {R : VK} (hv : ∀ i ∈ T.slots, i ∈ vs) (h : lowN K (tLc3 ti T tt te vs) σ H R) : tLc (lowI K ti) (g2 K T) (lowT K tt) (low K te) vs σ H R := by
  obtain ⟨w, env, S, Q, r0, en, t, q⟩ := h
  refine ⟨w, env, S, _, r0, en, t, fun w1 J H1 S1 xs ok e1 r1 hJ hz t1 => fun D hD => ?_⟩
  obtain ⟨I, h0, hok, hs, hd⟩ := t1
  refine ⟨fun i m H => i ≤ xs.length ∧ m = xs.length - i ∧ ∃ al h s acc ys, Ex0 w1 ⟨al, h, (D, .lst ys) :: w1.pn⟩ ∧ Rel3 K ⟨al, h, (D, .lst ys) :: w1.pn⟩ H s ∧ DpAll K h ys acc ∧ acc.length ≤ i ∧ I i acc s,
    ⟨_, Nat.zero_le _, rfl, w1.al, w1.h, S1, [], [], ⟨⟨[], by simp⟩, Same.refl _⟩, r1.pinNew hD, .nil, Nat.le_refl _, h0⟩, ?_⟩
  rintro i m H2 ⟨hi, rfl, al, h, s, acc, ys, e2, r2, da, hacc, h2⟩
  obtain ⟨hstop, hgo⟩ := hJ _ H2 s e2 r2 (hok i acc s h2)
  by_cases hlt : i < xs.length
  · obtain ⟨go, hy⟩ := hgo i xs[i] (List.getElem?_eq_getElem hlt)
    refine .inr ⟨go, fun H' => ∃ al h s acc ys, Ex0 w1 ⟨al, h, (D, .lst ys) :: w1.pn⟩ ∧ Rel3 K ⟨al, h, (D, .lst ys) :: w1.pn⟩ H' s ∧ DpAll K h ys acc ∧ acc.length ≤ i + 1 ∧ I (i + 1) acc s,
      fun H' ⟨al, h, s, acc, ys, a1, a2, a3, a4, a5⟩ => ⟨xs.length - (i + 1), by omega, hlt, rfl, al, h, s, acc, ys, a1, a2, a3, a4, a5⟩, fun x H' y => ?_⟩
    obtain ⟨w3, e3, r3, d3⟩ := hy x H' y
    have step := hs i xs[i] acc s (List.getElem?_eq_getElem hlt) h2
    cases hbd : bind3 T xs[i] (wipe3 env vs) with
    | none => rw [hbd] at step; exact step.elim
    | some env3 =>
      rw [hbd] at step
      have en3 : EnvR K w3 (wipe σ vs) (wipe3 env vs) := (((en.mono e1).mono0 e2).mono e3).wipe vs
      refine bind_low r3 vs T xs[i] x _ _ env3 hv en3 d3 hbd _ fun σ3 en4 hw => ⟨?_, ?_⟩
      · have ww : ∀ vs' : List Nat, (∀ i ∈ vs', i ∈ vs) → wipe (wipe σ vs) vs' = wipe σ vs := by
          intro vs'
          induction vs' with
          | nil => intro _; rfl
          | cons v vs' ih =>
            intro hsub
            show (wipe (wipe σ vs) vs').set v none = wipe σ vs
            rw [ih fun i hi => hsub i (List.mem_cons_of_mem _ hi)]
            have : ∀ (vs : List Nat), v ∈ vs → (wipe σ vs).set v none = wipe σ vs := by
              intro vs
              induction vs with
              | nil => intro h; cases h
              | cons u vs ih =>
                intro hm
                show ((wipe σ vs).set u none).set v none = (wipe σ vs).set u none
                by_cases e : v = u
                · subst e
                  rw [List.set_set]
                · have hm' : v ∈ vs := (List.mem_cons.mp hm).resolve_left e
                  rw [List.set_comm _ _ (Ne.symm e), ih hm']
            exact this vs (hsub v List.mem_cons_self)
        exact hw.trans (ww vs fun _ h => h)
      · refine ⟨w3, env3, s, _, r3, en4, step, fun w4 b H4 s4 e4 r4 t4 => ?_⟩
        obtain ⟨al4, h4, pn4⟩ := w4
        have hpn : pn4 = (D, .lst ys) :: w1.pn := by
          have a := e4.pn
          have b := e3.pn
          exact a.trans b
        subst hpn
        have e24 : Ex0 w1 ⟨al4, h4, (D, .lst ys) :: w1.pn⟩ := (e2.trans e3.toEx0).trans e4.toEx0
        cases b with
        | false =>
          rw [if_neg Bool.false_ne_true] at t4 ⊢
          exact ⟨al4, h4, s4, acc, ys, e24, r4, dpAll_mono (e3.h.trans e4.h) acc ys da, by omega, t4⟩
        | true =>
          rw [if_pos rfl] at t4 ⊢
          refine ⟨_, env3, s4, _, r4, en4.mono e4, t4, fun w5 v d H5 s5 e5 r5 p5 t5 => ?_⟩
          obtain ⟨al5, h5, pn5⟩ := w5
          have hpn : pn5 = (D, .lst ys) :: w1.pn := e5.pn
          subst hpn
          cases d with
          | loc n => exact t5.elim
          | p d =>
            have hl := DpAll.length da
            refine ⟨ys, (r5.pin D _ List.mem_cons_self).1, by omega, al5, h5, s5, acc ++ [d], ys ++ [v], ?_, r5.repin, ?_, ?_, t5⟩
            · exact ⟨(e24.trans e5.toEx0).al, (e24.trans e5.toEx0).h⟩
            · exact DpAll.append (dpAll_mono ((e3.h.trans e4.h).trans e5.h) acc ys da) (.cons p5 .nil)
            · rw [List.length_append, List.length_singleton]
              omega
  · have e' : i = xs.length := by omega
    subst e'
    obtain ⟨r3, hdn, hup⟩ := r2.unpin
    refine .inl ⟨hstop _ (Nat.le_refl _), ?_⟩
    rw [← hup]
    refine q ⟨al, h, w1.pn⟩ D ys acc _ s (e1.trans ⟨⟨e2.al, e2.h⟩, rfl⟩) r3 hdn da ?_ (hd acc s h2)
    omega
section
variable {X : Cx} {elt tg iter : Expr} {ifs : List Expr} {scope : Scope} {own : List (Str × Nat)} {pos : Pos} {ti : TI3} {T : Tg} {tt : TT3} {te : TE3}
abbrev QTs (X : Cx) (ifs : List Expr) (t : TT3) : Prop := PTs X ifs (lowT X.K t)
theorem qts_nil : QTs X [] tYes3 := ⟨fun pins s σ H Q I ⟨w, env, S, Q3, r0, en, t, q⟩ => pts_nil.run pins s σ H Q I (q w true H S (Ex3.refl w) r0 t)⟩
theorem qts_one {c : Expr} {t : TT3} (h : QT X c t) : QTs X [c] t := pts_one h
theorem qn_lc (hc : X.calm = true) (hN : X.N.Nodup) (hi : QI X tg iter ti) (ok : BlkOk X.N X.env.scope scope own)
    (hg : ∀ (s : Shared) (H : Hp) (C : Addr) (cl : List (Str × Addr)) (fp : List Addr), QB (X.blk s H scope (compEnvC scope cl C X.env) fp) tg T) (ht : ∀ (s : Shared) (H : Hp) (C : Addr) (cl : List (Str × Addr)) (fp : List Addr), QTs (X.blk s H scope (compEnvC scope cl C X.env) fp) ifs tt)
    (he : ∀ (s : Shared) (H : Hp) (C : Addr) (cl : List (Str × Addr)) (fp : List Addr), QE (X.blk s H scope (compEnvC scope cl C X.env) fp) elt te) (hv : ∀ i ∈ T.slots, i ∈ own.map (·.2) := by decide) (hs : ∀ x, foldedSetIterable iter X.env x = pure x := by intro _; rfl) :
    QN X (.ListComp elt [⟨tg, iter, ifs, 0⟩] scope pos) (tLc3 ti T tt te (own.map (·.2))) := (pe_lc hc hN hi ok hg ht he hs).imp fun σ H R h => lc_low hv h
/-- name = [..], the name a local -/
theorem qs_setLcP {i : Nat} {y : Str} {py spos : Pos} (hc : X.calm = true) (hN : X.N.Nodup) (hy : X.N[i]? = some y) (hyl : X.env.scope.names.lookup y = some .local)
    (hsw : swapsWith (.ListComp elt [⟨tg, iter, ifs, 0⟩] scope pos) (some (.Name y py)) spos.line X.env = pure true) (hi : QI X tg iter ti) (ok : BlkOk X.N X.env.scope scope own)
    (hg : ∀ (s : Shared) (H : Hp) (C : Addr) (cl : List (Str × Addr)) (fp : List Addr), QB (X.blk s H scope (compEnvC scope cl C X.env) fp) tg T) (ht : ∀ (s : Shared) (H : Hp) (C : Addr) (cl : List (Str × Addr)) (fp : List Addr), QTs (X.blk s H scope (compEnvC scope cl C X.env) fp) ifs tt)
    (he : ∀ (s : Shared) (H : Hp) (C : Addr) (cl : List (Str × Addr)) (fp : List Addr), QE (X.blk s H scope (compEnvC scope cl C X.env) fp) elt te) (hv : ∀ i ∈ T.slots, i ∈ own.map (·.2) := by decide) (hs : ∀ x, foldedSetIterable iter X.env x = pure x := by intro _; rfl) :
    QS X (.Assign [.Name y py] (.ListComp elt [⟨tg, iter, ifs, 0⟩] scope pos) spos) (tSet3 i (tPure (tLc3 ti T tt te (own.map (·.2))))) := (ps_setLc hc hN hy hyl hsw hi ok hg ht he hs).imp fun D σ H ⟨w, env, S, D3, r0, en, t, q⟩ => by
  refine lc_low (R := fun x H1 => gName i x σ H1 D.nx) hv ⟨w, env, S, _, r0, en, t, fun w1 p xs ds H1 S1 e1 r1 hn ha hz t1 => ?_⟩
  have hl := DpAll.length ha
  obtain ⟨r2, e2⟩ := r1.frz (u := .lst xs) hn (by show xs.length ≤ _; rw [hl]; exact hz)
  exact q.nx _ _ _ _ S1 (e1.trans e2) r2 (((en.mono e1).mono e2).set (d := .p (.list ds)) i (Dp.lst (.inl (.inl upd_same)) (dpAll_mono e2.h ds xs ha))) t1
theorem qs_setLcO {i : Nat} {y : Str} {py spos : Pos} (hc : X.calm = true) (hN : X.N.Nodup) (hy : X.N[i]? = some y) (hyl : X.env.scope.names.lookup y = some .local)
    (hsw : swapsWith (.ListComp elt [⟨tg, iter, ifs, 0⟩] scope pos) (some (.Name y py)) spos.line X.env = pure true) (hi : QI X tg iter ti) (ok : BlkOk X.N X.env.scope scope own)
    (hg : ∀ (s : Shared) (H : Hp) (C : Addr) (cl : List (Str × Addr)) (fp : List Addr), QB (X.blk s H scope (compEnvC scope cl C X.env) fp) tg T) (ht : ∀ (s : Shared) (H : Hp) (C : Addr) (cl : List (Str × Addr)) (fp : List Addr), QTs (X.blk s H scope (compEnvC scope cl C X.env) fp) ifs tt)
    (he : ∀ (s : Shared) (H : Hp) (C : Addr) (cl : List (Str × Addr)) (fp : List Addr), QE (X.blk s H scope (compEnvC scope cl C X.env) fp) elt te) (hv : ∀ i ∈ T.slots, i ∈ own.map (·.2) := by decide) (hs : ∀ x, foldedSetIterable iter X.env x = pure x := by intro _; rfl) :
    QS X (.Assign [.Name y py] (.ListComp elt [⟨tg, iter, ifs, 0⟩] scope pos) spos) (tSet3 i (tOwn (tLc3 ti T tt te (own.map (·.2))))) := (ps_setLc hc hN hy hyl hsw hi ok hg ht he hs).imp fun D σ H ⟨w, env, S, D3, r0, en, t, q⟩ => by
  refine lc_low (R := fun x H1 => gName i x σ H1 D.nx) hv ⟨w, env, S, _, r0, en, t, fun w1 p xs ds H1 S1 e1 r1 hn ha hz t1 => ?_⟩
  obtain ⟨r2, e2⟩ := r1.push (u := .lst xs) (o := .lst ds) hn ⟨xs, rfl, ha, hz⟩
  refine q.nx _ _ _ _ _ (e1.trans e2) r2 (((en.mono e1).mono e2).set (d := .loc S1.length) i ⟨p, ?_, rfl⟩) t1
  show (w1.al ++ [p])[S1.length]? = some p
  rw [← r1.len, List.getElem?_append_right (Nat.le_refl _)]
  simp
end
end L3

namespace L3
open PySem PySem.Spec PyProof.Rows L2
/-! ### defs -/
abbrev Sp3 := List D → S3 → K3 → Prop
/-- a def that keeps a promise over trees -/
structure Ok3 (P : Program) (w : World) (K : PySem.W.Frag) (mg : Str → Option Value) (base : Heap) (k : Nat) (x : Str) (sp : Sp3) : Prop where
  ex : ∃ f fd ps, mg x = some (.ref f) ∧ PySem.W.keepIn K (.ref f) = true ∧ Binds K fd ps [] ∧ FnOk P w K mg base CX0 k f fd ps (fun vs H Q _ => lowC K sp vs H Q)
section
variable {X : Cx} {e : Expr} {es : List Expr} {tr : TA3} {p pos : Pos} {x : Str} {k : Nat} {sp : Sp3}
theorem qe_call (F : Ok3 X.prog X.w X.K X.mg X.base k x sp) (hr : Room k X.A) (hg : Gl X x) (ha : QA X (e :: es) tr) (hdb : (x == ("__debug__" : Str)) = false := by decide) (he : starEach (e :: es) X.env = (false, eval e X.env) :: starEach es X.env := by rfl) (hpl : (backTo pos (starEach es X.env)).any (·.1) = false := by rfl) :
    QE X (.Call (.Name x p) (e :: es) [] pos) (tCB3 sp tr) := by
  obtain ⟨f, fd, ps, hm, kp, b, ok⟩ := F.ex
  refine (pe_call ok hr hg hm kp b .nil pass0 ha hdb he hpl).imp fun σ H R h => ?_
  show lowA X.K tr σ H fun vs H1 => lowC X.K sp (vs ++ []) H1 R
  have := lowCB h
  obtain ⟨w, env, S, Q, r0, en, t, q⟩ := this
  refine ⟨w, env, S, Q, r0, en, t, fun w1 vs ds H1 S1 e1 r1 p1 t1 => ?_⟩
  show lowC X.K sp (vs ++ []) H1 R
  rw [List.append_nil]
  exact q w1 vs ds H1 S1 e1 r1 p1 t1
end
/-- a def's answer: the store's last objects (those made within) are forgotten, but for what is handed back -/
def Fin3 (S : S3) (Q : K3) : K3 := fun d S' => ∃ L, S.length ≤ L ∧ below L d ∧ Q d (S'.take L)
theorem fin_p {S : S3} {Q : K3} {d : PyData} (h : Q (.p d) S) : Fin3 S Q (.p d) S := ⟨S.length, Nat.le_refl _, trivial, by rw [List.take_length]; exact h⟩
theorem fin_app {S T : S3} {Q : K3} {d : PyData} (h : Q (.p d) S) : Fin3 S Q (.p d) (S ++ T) := ⟨S.length, Nat.le_refl _, trivial, by rw [List.take_left]; exact h⟩
theorem fin_of {S S' : S3} {Q : K3} {d : PyData} (e : S'.take S.length = S) (h : Q (.p d) S) : Fin3 S Q (.p d) S' := ⟨S.length, Nat.le_refl _, trivial, by rw [e]; exact h⟩
theorem fin_all {S S' : S3} {Q : K3} {d : D} (hl : S.length ≤ S'.length) (hb : below S'.length d) (h : Q d S') : Fin3 S Q d S' := ⟨S'.length, hl, hb, by rw [List.take_length]; exact h⟩
theorem fin_new {S : S3} {o : Option O3} {Q : K3} (h : Q (.loc S.length) (S ++ [o])) : Fin3 S Q (.loc S.length) (S ++ [o]) := fin_all (by simp) (by show _ < _; simp) h
def env0 (n : Nat) (ds : List D) : E3 := ds.map some ++ List.replicate (n - ds.length) none
theorem at3_app : ∀ (ds : List D) (r : E3) (i : Nat), at3 (ds.map some ++ r) i = if i < ds.length then ds[i]? else at3 r (i - ds.length)
  | [], r, i => by simp [at3]
  | d :: ds, r, 0 => by simp [at3]
  | d :: ds, r, i + 1 => by
    show at3 (ds.map some ++ r) i = _
    rw [at3_app ds r i]
    simp
theorem at3_none : ∀ (n i : Nat), at3 (List.replicate n none) i = none
  | 0, _ => rfl
  | n + 1, 0 => rfl
  | n + 1, i + 1 => at3_none n i
theorem repDs_get {K : PySem.W.Frag} {w : W3} : ∀ {vs : List V} {ds : List D} {i : Nat} {d : D}, RepDs K w vs ds → ds[i]? = some d → ∃ v, vs[i]? = some v ∧ RepD K w v d
  | v :: vs, d :: ds, 0, e, h, q => by simp at q; subst q; exact ⟨v, rfl, h.1⟩
  | v :: vs, d :: ds, i + 1, e, h, q => by
    obtain ⟨u, h1, h2⟩ := repDs_get (i := i) h.2 (by simpa using q)
    exact ⟨u, by simpa using h1, h2⟩
  | [], [], i, e, h, q => by simp at q
  | [], _ :: _, _, _, h, _ => h.elim
  | _ :: _, [], _, _, h, _ => h.elim
theorem env_start {K : PySem.W.Frag} {w : W3} {vs : List V} {ds : List D} {N : List Str} (h : RepDs K w vs ds) : EnvR K w (L2.start N vs) (env0 N.length ds) := by
  have hl := RepDs.length h
  unfold L2.start env0
  refine ⟨by simp [hl], fun i d q => ?_⟩
  rw [at3_app] at q
  by_cases hi : i < ds.length
  · rw [if_pos hi] at q
    obtain ⟨v, h1, h2⟩ := repDs_get h q
    refine ⟨v, ?_, h2⟩
    rw [List.getElem?_append_left (by simp; omega), List.getElem?_map, h1]
    rfl
  · rw [if_neg hi, at3_none] at q
    cases q
section
variable {P : Program} {w : World} {K : PySem.W.Frag} {mg : Str → Option Value} {base : Heap}
/-- THE RULE for a def -/
theorem Ok3.fnOk {x : Str} {st : Stmt} {f : Addr} {fd : FuncData} {N ps : List Str} {k : Nat} {sp : Sp3} {t3 : TS3} (F : Fun K x x st f fd) (b : Binds K fd ps []) (sc : FnScope N ps (defScope st))
    (hlen : ∀ ds S Q, sp ds S Q → ds.length = ps.length)
    (body : ∀ (cdv : Value) (A : Around) (outer : List Env) (s : Shared) (H : Hp) (E : XK), Room k (A.deeper (envOfC x (defScope st) s.heap.objs.size f cdv)) → QSs (cxOf CX0 P w K mg base N x (defScope st) f cdv A outer s H E).nox (defBody st) t3)
    (read : ∀ ds S Q, sp ds S Q → t3 { nx := fun _ S' => Fin3 S Q (.p .none) S', rt := Fin3 S Q } (env0 N.length ds) S) : FnOk P w K mg base CX0 (k + 1) f fd ps (fun vs H Q _ => lowC K sp vs H Q) := by
  refine F.ok sc (fun vs H Q E h => ?_) (fun cdv A outer s H vs Q E hr h => ?_)
  · obtain ⟨w3, S, ds, Q3, r, rd, hs, q⟩ := h
    rw [RepDs.length rd]
    exact hlen ds S Q3 hs
  · obtain ⟨w3, S, ds, Q3, r, rd, hs, q⟩ := h
    refine ⟨_, body cdv A outer s H E hr, ?_⟩
    have fin : ∀ (w4 : W3) (v : V) (d : D) (H' : Hp) (S' : S3), Ex3 w3 w4 → Rel3 K w4 H' S' → RepD K w4 v d → Fin3 S Q3 d S' → Q v H' := fun w4 v d H' S' e4 r4 p4 ⟨L, hL, hb, h4⟩ => by
      refine q ⟨w4.al.take L, w4.h, w4.pn⟩ v d H' (S'.take L) ⟨⟨?_, e4.h⟩, e4.pn⟩ (r4.shrink L) ?_ h4
      · obtain ⟨t, ht⟩ := e4.al
        refine ⟨t.take (L - w3.al.length), ?_⟩
        show w4.al.take L = _
        rw [ht, List.take_append, List.take_of_length_le (by rw [r.len]; exact hL)]
      · cases d with
        | p d => exact p4
        | loc m =>
          obtain ⟨a, h5, h6⟩ := p4
          exact ⟨a, by show (w4.al.take L)[m]? = _; rw [List.getElem?_take_of_lt hb]; exact h5, h6⟩
    exact ⟨w3, _, S, _, r, env_start rd, read ds S Q3 hs, ⟨fun w4 σ' H' env' S' e4 r4 _ h4 => fin w4 .non (.p .none) H' S' e4 r4 rep_non h4, fun w4 v d H' S' e4 r4 p4 h4 => fin w4 v d H' S' e4 r4 p4 h4,
      fun _ _ _ _ _ _ _ _ h => h.elim, fun _ _ _ _ _ _ _ _ h => h.elim⟩⟩
theorem Ok3.mk' {x : Str} {st : Stmt} {f : Addr} {fd : FuncData} {N ps : List Str} {k : Nat} {sp : Sp3} {t3 : TS3} (F : Fun K x x st f fd) (hm : mg x = some (.ref f)) (b : Binds K fd ps []) (sc : FnScope N ps (defScope st))
    (hlen : ∀ ds S Q, sp ds S Q → ds.length = ps.length)
    (body : ∀ (cdv : Value) (A : Around) (outer : List Env) (s : Shared) (H : Hp) (E : XK), Room k (A.deeper (envOfC x (defScope st) s.heap.objs.size f cdv)) → QSs (cxOf CX0 P w K mg base N x (defScope st) f cdv A outer s H E).nox (defBody st) t3)
    (read : ∀ ds S Q, sp ds S Q → t3 { nx := fun _ S' => Fin3 S Q (.p .none) S', rt := Fin3 S Q } (env0 N.length ds) S) : Ok3 P w K mg base (k + 1) x sp :=
  ⟨f, fd, ps, hm, F.kp, b, Ok3.fnOk F b sc hlen body read⟩
end

/-! ### operators -/
theorem opq {X : Cx} {f : Value → Value → Sem Value} {r2 : R2} {r : R3} (h : OpR X f r2) (i : ∀ w S d e (x y : V) (H : Hp) (Q : K3) (R : VK), Rel3 X.K w H S → RepD X.K w x d → RepD X.K w y e → r d e S Q → EndE X.K w Q R → r2 x y H R) : OQ X f r :=
  OpR.imp h fun x y H R ⟨w, S, d, e, Q, r0, p1, p2, t, q⟩ => i w S d e x y H Q R r0 p1 p2 t q
theorem callq {X : Cx} {f : Value} {r2 : List V → Hp → VK → Prop} {r : C3} (h : CallR X f r2) (i : ∀ w S ds (xs : List V) (H : Hp) (Q : K3) (R : VK), Rel3 X.K w H S → RepDs X.K w xs ds → r ds S Q → EndE X.K w Q R → r2 xs H R) : CQ X f r :=
  CallR.imp h fun xs H R ⟨w, S, ds, Q, r0, p1, t, q⟩ => i w S ds xs H Q R r0 p1 t q
section
variable {X : Cx} {K : PySem.W.Frag} {w : W3} {H : Hp} {S : S3} {Q : K3} {R : VK}
theorem EndE.int (q : EndE K w Q R) (r : Rel3 K w H S) {i : Int} (h : Q (.p (.int i)) S) : R (.int i) H := q w _ _ H S (Ex3.refl w) r rep_int h
theorem EndE.bl (q : EndE K w Q R) (r : Rel3 K w H S) {i : Bool} (h : Q (.p (.bool i)) S) : R (.bl i) H := q w _ _ H S (Ex3.refl w) r rep_bl h
theorem EndE.str (q : EndE K w Q R) (r : Rel3 K w H S) {i : Str} (h : Q (.p (.str i)) S) : R (.str i) H := q w _ _ H S (Ex3.refl w) r rep_str h
theorem EndE.old (q : EndE K w Q R) (r : Rel3 K w H S) {v : V} {d : D} (hd : RepD K w v d) (h : Q d S) : R v H := q w _ _ H S (Ex3.refl w) r hd h
theorem EndE.tup (q : EndE K w Q R) (r : Rel3 K w H S) {vs : List V} {ds : List PyData} (ha : DpAll K w.h vs ds) (hz : ds.length ≤ sizeLine) (h : Q (.p (.tuple ds)) S) : ∀ p, H p = none → R (.ref p) (upd H p (.tup vs)) := fun p hn => by
  obtain ⟨r2, e2⟩ := r.frz (u := .tup vs) hn (by show vs.length ≤ _; rw [DpAll.length ha]; exact hz)
  exact q _ (.ref p) (.p (.tuple ds)) _ S e2 r2 (Dp.tup (.inl (.inl upd_same)) (dpAll_mono e2.h ds vs ha)) h
theorem EndE.lst (q : EndE K w Q R) (r : Rel3 K w H S) {vs : List V} {ds : List PyData} (ha : DpAll K w.h vs ds) (hz : ds.length ≤ sizeLine) (h : Q (.p (.list ds)) S) : ∀ p, H p = none → R (.ref p) (upd H p (.lst vs)) := fun p hn => by
  obtain ⟨r2, e2⟩ := r.frz (u := .lst vs) hn (by show vs.length ≤ _; rw [DpAll.length ha]; exact hz)
  exact q _ (.ref p) (.p (.list ds)) _ S e2 r2 (Dp.lst (.inl (.inl upd_same)) (dpAll_mono e2.h ds vs ha)) h
end
/-- ints in, an int out -/
def rInt (C : Int → Int → Prop) (g : Int → Int → PyData) : R3 := fun x y S Q => match x, y with
  | .p (.int i), .p (.int j) => C i j ∧ Q (.p (g i j)) S
  | _, _ => False
def rInt0 (g : Int → Int → PyData) : R3 := fun x y S Q => match x, y with
  | .p (.int i), .p (.int j) => Q (.p (g i j)) S
  | _, _ => False
theorem rint_inv {C : Int → Int → Prop} {g : Int → Int → PyData} {x y : D} {S : S3} {Q : K3} (h : rInt C g x y S Q) : ∃ i j, x = .p (.int i) ∧ y = .p (.int j) ∧ C i j ∧ Q (.p (g i j)) S := by
  unfold rInt at h
  split at h
  · exact ⟨_, _, rfl, rfl, h⟩
  · exact h.elim
theorem rint0_inv {g : Int → Int → PyData} {x y : D} {S : S3} {Q : K3} (h : rInt0 g x y S Q) : ∃ i j, x = .p (.int i) ∧ y = .p (.int j) ∧ Q (.p (g i j)) S := by
  unfold rInt0 at h
  split at h
  · exact ⟨_, _, rfl, rfl, h⟩
  · exact h.elim
section
variable {X : Cx}
theorem oq_int {f : Value → Value → Sem Value} {C : Int → Int → Prop} {g : Int → Int → Int} (h : OpR X f (rI C fun i j => .int (g i j))) : OQ X f (rInt C fun i j => .int (g i j)) := opq h fun w S d e x y H Q R r0 p1 p2 t q => by
  obtain ⟨i, j, rfl, rfl, hc, t⟩ := rint_inv t
  exact ⟨i, j, dp_int p1, dp_int p2, hc, q.int r0 t⟩
theorem oq_int0 {f : Value → Value → Sem Value} {g : Int → Int → Int} (h : OpR X f (rI0 fun i j => .int (g i j))) : OQ X f (rInt0 fun i j => .int (g i j)) := opq h fun w S d e x y H Q R r0 p1 p2 t q => by
  obtain ⟨i, j, rfl, rfl, t⟩ := rint0_inv t
  exact ⟨i, j, dp_int p1, dp_int p2, q.int r0 t⟩
theorem oq_bool0 {f : Value → Value → Sem Value} {g : Int → Int → Bool} (h : OpR X f (rI0 fun i j => .bl (g i j))) : OQ X f (rInt0 fun i j => .bool (g i j)) := opq h fun w S d e x y H Q R r0 p1 p2 t q => by
  obtain ⟨i, j, rfl, rfl, t⟩ := rint0_inv t
  exact ⟨i, j, dp_int p1, dp_int p2, q.bl r0 t⟩
/-! #### sums -/
theorem op_catL : OpR X (binaryOp .Add) (fun x y H Q => ∃ a b xs ys, x = .ref a ∧ y = .ref b ∧ SqL X.K H a xs ∧ SqL X.K H b ys ∧ xs.length + ys.length ≤ sizeLine ∧ ∀ p, H p = none → Q (.ref p) (upd H p (.lst (xs ++ ys)))) := by
  intro pins s σ H x y v u Q I rx ry h
  obtain ⟨l, b, xs, zs, rfl, rfl, hH, hB, hz, q⟩ := h
  cases rx
  cases ry
  obtain ⟨its, r, p1, z1⟩ := I.list hH
  obtain ⟨its2, r2, p2, z2⟩ := I.list hB
  have hl := r.length
  have hl2 := r2.length
  obtain ⟨⟨cls, dd, data, sl⟩, ho, hc, n, hd⟩ := id p1.isList
  obtain ⟨⟨cls2, dd2, data2, sl2⟩, ho2, hc2, n2, hd2⟩ := id p2.isList
  simp only at hc hd hc2 hd2
  subst hc hd hc2 hd2
  refine PySem.concat_meets ⟨_, ho, rfl⟩ ⟨_, ho2, rfl⟩ noFill_list_add seq_list_add PySem.F.slot_list_add PySem.F.entry_list_add (PySem.F.args_list_add_2 _ _) (list_addW l b its.toArray its2.toArray n n2 dd dd2 sl sl2 (by simp; omega)) ⟨ho, ho2, ?_⟩
  have ea : its.toArray ++ its2.toArray = (its ++ its2).toArray := by simp
  rw [ea]
  have hn : H s.heap.objs.size = none := I.hok.fresh (Nat.le_refl _)
  exact ⟨.ref s.heap.objs.size, _, I.laid (t' := s.toks) (o := .lst (xs ++ zs)) (fun b ob q => Heap.get?_push_of_some _ q) (Nat.le_refl _) ⟨by rw [List.length_append]; exact hz, _, _, r.append r2, Heap.get?_push_size _ rfl⟩, rfl, q _ hn⟩
end
/-- the items of a list: as it stands for ever, or of the store -/
def lst3 (S : S3) : D → Option (List PyData)
  | .p (.list ds) => some ds
  | .loc n => match S[n]? with
    | some (some (.lst ds)) => some ds
    | _ => none
  | _ => none
theorem lst3_low {K : PySem.W.Frag} {w : W3} {H : Hp} {S : S3} {v : V} {d : D} {ds : List PyData} (r : Rel3 K w H S) (p : RepD K w v d) (h : lst3 S d = some ds) : ∃ a xs, v = .ref a ∧ SqL K H a xs ∧ DpAll K w.h xs ds ∧ ds.length ≤ sizeLine := by
  unfold lst3 at h
  split at h
  · cases h
    obtain ⟨a, xs, rfl, hq, ha⟩ := dp_list_ref p
    exact ⟨a, xs, rfl, L2.Same.seq r.sub hq, ha, len_list r p⟩
  · rename_i n
    split at h
    · rename_i es hs
      cases h
      obtain ⟨a, ha, rfl⟩ := p
      obtain ⟨_, u, hu, xs, rfl, hd, hz⟩ := r.live n a _ ha hs
      exact ⟨a, xs, rfl, .inl (.inl hu), hd, hz⟩
    · cases h
  · cases h
/-- the items of a list or a tuple -/
def seq3 (S : S3) : D → Option (List PyData)
  | .p (.tuple ds) => some ds
  | d => lst3 S d
theorem seq3_low {K : PySem.W.Frag} {w : W3} {H : Hp} {S : S3} {v : V} {d : D} {ds : List PyData} (r : Rel3 K w H S) (p : RepD K w v d) (h : seq3 S d = some ds) : ∃ a xs, v = .ref a ∧ (SqL K H a xs ∨ SqT K H a xs) ∧ DpAll K w.h xs ds ∧ ds.length ≤ sizeLine := by
  unfold seq3 at h
  split at h
  · cases h
    obtain ⟨a, xs, rfl, hq, ha⟩ := dp_tup_ref p
    exact ⟨a, xs, rfl, .inr (Same.sqT r.sub hq), ha, len_tup r p⟩
  · obtain ⟨a, xs, h1, h2, h3⟩ := lst3_low r p h
    exact ⟨a, xs, h1, .inl h2, h3⟩
def rAdd3 : R3 := fun x y S Q => match x, y with
  | .p (.int i), .p (.int j) => Q (.p (.int (i + j))) S
  | .p (.tuple a), .p (.tuple b) => a.length + b.length ≤ 16777216 ∧ Q (.p (.tuple (a ++ b))) S
  | .p (.str a), .p (.str b) => a.length + b.length ≤ 16777216 ∧ Q (.p (.str (a ++ b))) S
  | a, b => match lst3 S a, lst3 S b with
    | some ds, some es => ds.length + es.length ≤ 16777216 ∧ Q (.p (.list (ds ++ es))) S
    | _, _ => False
section
variable {X : Cx}
theorem oq_add : OQ X (binaryOp .Add) rAdd3 := opq (op_add.or (op_catA.or (op_add_str.or op_catL))) fun w S d e x y H Q R r0 p1 p2 t q => by
  have hz : sizeLine = 16777216 := sizeLine_eq
  unfold rAdd3 at t
  split at t
  · exact .inl ⟨_, _, dp_int p1, dp_int p2, q.int r0 t⟩
  · rename_i a b
    refine .inr (.inl ?_)
    obtain ⟨l, xs, rfl, hq, ha⟩ := dp_tup_ref p1
    obtain ⟨m, ys, rfl, hq2, ha2⟩ := dp_tup_ref p2
    have hl := DpAll.length ha
    have hl2 := DpAll.length ha2
    refine ⟨l, m, xs, ys, rfl, rfl, Same.sqT r0.sub hq, Same.sqT r0.sub hq2, by omega, fun z => ?_, fun _ z => ?_, fun _ _ => q.tup r0 (DpAll.append ha ha2) (by rw [List.length_append]; omega) t.2⟩
    · subst z
      cases ha
      exact q.old r0 p2 t.2
    · subst z
      cases ha2
      have t2 := t.2
      rw [List.append_nil] at t2
      exact q.old r0 p1 t2
  · exact .inr (.inr (.inl ⟨_, _, dp_str p1, dp_str p2, by omega, q.str r0 t.2⟩))
  · split at t
    · rename_i ds es h1 h2
      obtain ⟨l, xs, rfl, hq, ha, _⟩ := lst3_low r0 p1 h1
      obtain ⟨m, ys, rfl, hq2, ha2, _⟩ := lst3_low r0 p2 h2
      have hl := DpAll.length ha
      have hl2 := DpAll.length ha2
      exact .inr (.inr (.inr ⟨l, m, xs, ys, rfl, rfl, hq, hq2, by omega, q.lst r0 (DpAll.append ha ha2) (by rw [List.length_append]; omega) t.2⟩))
    · exact t.elim
/-- a product of ints: one of them below 2 ^ 64, or both together below a million bits -/
def MulOk (i j : Int) : Prop := (-18446744073709551616 < i ∧ i < 18446744073709551616) ∨ (-18446744073709551616 < j ∧ j < 18446744073709551616) ∨ CMulW i j
def DivOk (_ j : Int) : Prop := 0 < j ∧ (j < 18446744073709551616 ∨ j.natAbs.log2 < 9000)
def PowOk (i j : Int) : Prop := 0 ≤ j ∧ j ≤ 1000000 ∧ -18446744073709551616 < i ∧ i < 18446744073709551616
def rSub3 : R3 := rInt0 fun i j => .int (i - j)
def rMul3 : R3 := rInt MulOk fun i j => .int (i * j)
def rMod3 : R3 := rInt (fun _ j => 0 < j) fun i j => .int (i % j)
def rDiv3 : R3 := rInt DivOk fun i j => .int (i / j)
def rPow3 : R3 := rInt PowOk fun i j => .int (i ^ j.toNat)
theorem oq_sub : OQ X (binaryOp .Sub) rSub3 := oq_int0 op_sub
theorem oq_mul : OQ X (binaryOp .Mult) rMul3 := opq (op_mul.or op_mulW) fun w S d e x y H Q R r0 p1 p2 t q => by
  obtain ⟨i, j, rfl, rfl, hc, t⟩ := rint_inv t
  rcases hc with hc | hc | hc
  · exact .inl ⟨i, j, dp_int p1, dp_int p2, .inl (by omega), q.int r0 t⟩
  · exact .inl ⟨i, j, dp_int p1, dp_int p2, .inr (by omega), q.int r0 t⟩
  · exact .inr ⟨i, j, dp_int p1, dp_int p2, hc, q.int r0 t⟩
theorem oq_mod : OQ X (binaryOp .Mod) rMod3 := oq_int op_mod
theorem DivOk.log {i j : Int} (h : DivOk i j) : CDivW i j := by
  rcases h with ⟨h0, hc | hc⟩
  · refine wide_div (b := 64) h0 ?_ (by decide) (by decide)
    omega
  · exact ⟨h0, hc⟩
theorem oq_div : OQ X (binaryOp .FloorDiv) rDiv3 := opq op_fdivW fun w S d e x y H Q R r0 p1 p2 t q => by
  obtain ⟨i, j, rfl, rfl, hc, t⟩ := rint_inv t
  exact ⟨i, j, dp_int p1, dp_int p2, hc.log, q.int r0 t⟩
theorem oq_pow : OQ X (binaryOp .Pow) rPow3 := opq op_pow fun w S d e x y H Q R r0 p1 p2 t q => by
  obtain ⟨i, j, rfl, rfl, ⟨h0, h1, h2, h3⟩, t⟩ := rint_inv t
  exact ⟨i, j, dp_int p1, dp_int p2, ⟨h0, h1, by omega⟩, q.int r0 t⟩
def rLt3 : R3 := rInt0 fun i j => .bool (decide (i < j))
def rLe3 : R3 := rInt0 fun i j => .bool (decide (i ≤ j))
def rGt3 : R3 := rInt0 fun i j => .bool (decide (j < i))
def rGe3 : R3 := rInt0 fun i j => .bool (decide (j ≤ i))
theorem oq_lt : OQ X (compareOp .Lt) rLt3 := oq_bool0 op_lt
theorem oq_le : OQ X (compareOp .LtE) rLe3 := oq_bool0 op_le
theorem oq_gt : OQ X (compareOp .Gt) rGt3 := oq_bool0 op_gt
theorem oq_ge : OQ X (compareOp .GtE) rGe3 := oq_bool0 op_ge
/-- == of data -/
def rEq3 : R3 := fun x y S Q => match x, y with
  | .p d, .p e => (SeqAt.shaped d = true ∧ SeqAt.shaped e = true) ∧ Q (.p (.bool (PyData.eqv d e))) S
  | _, _ => False
def rNe3 : R3 := fun x y S Q => match x, y with
  | .p d, .p e => (SeqAt.shaped d = true ∧ SeqAt.shaped e = true) ∧ Q (.p (.bool (!PyData.eqv d e))) S
  | _, _ => False
theorem oq_eq (hu : X.A.units + 64 < cLine) : OQ X (compareOp .Eq) rEq3 := opq (op_eqD hu) fun w S d e x y H Q R r0 p1 p2 t q => by
  unfold rEq3 at t
  split at t
  · exact ⟨_, _, dp_mono r0.sub _ _ p1, dp_mono r0.sub _ _ p2, t.1.1, t.1.2, q.bl r0 t.2⟩
  · exact t.elim
theorem oq_ne (hu : X.A.units + 64 < cLine) : OQ X (compareOp .NotEq) rNe3 := opq (op_neD hu) fun w S d e x y H Q R r0 p1 p2 t q => by
  unfold rNe3 at t
  split at t
  · exact ⟨_, _, dp_mono r0.sub _ _ p1, dp_mono r0.sub _ _ p2, t.1.1, t.1.2, q.bl r0 t.2⟩
  · exact t.elim
def isNon : D → Bool
  | .p .none => true
  | _ => false
theorem isNon_low {K : PySem.W.Frag} {w : W3} {v : V} {d : D} (p : RepD K w v d) : decide (v = .non) = isNon d := by
  cases d with
  | loc n =>
    obtain ⟨a, _, rfl⟩ := p
    rfl
  | p d =>
    have p' : Dp K w.h v d := p
    cases p' <;> rfl
def rIs3 : R3 := fun x y S Q => match y with
  | .p .none => Q (.p (.bool (isNon x))) S
  | .p (.bool b) => match x with
    | .p (.bool a) => Q (.p (.bool (a == b))) S
    | _ => False
  | _ => False
def rIsNot3 : R3 := fun x y S Q => match y with
  | .p .none => Q (.p (.bool (!isNon x))) S
  | .p (.bool b) => match x with
    | .p (.bool a) => Q (.p (.bool (a != b))) S
    | _ => False
  | _ => False
theorem oq_is : OQ X (compareOp .Is) rIs3 := opq (op_isN.or op_isBl) fun w S d e x y H Q R r0 p1 p2 t q => by
  unfold rIs3 at t
  split at t
  · refine .inl ⟨dp_non p2, ?_⟩
    rw [isNon_low p1]
    exact q.bl r0 t
  · split at t
    · refine .inr ⟨_, _, dp_bl p1, dp_bl p2, ?_⟩
      rename_i a
      rename_i b _
      refine q.bl r0 ?_
      rw [← Bool.beq_eq_decide_eq]
      exact t
    · exact t.elim
  · exact t.elim
theorem oq_isnot : OQ X (compareOp .IsNot) rIsNot3 := opq (op_notN.or op_notBl) fun w S d e x y H Q R r0 p1 p2 t q => by
  unfold rIsNot3 at t
  split at t
  · refine .inl ⟨dp_non p2, ?_⟩
    rw [isNon_low p1]
    exact q.bl r0 t
  · split at t
    · refine .inr ⟨_, _, dp_bl p1, dp_bl p2, ?_⟩
      rename_i a
      rename_i b _
      refine q.bl r0 ?_
      rw [← Bool.beq_eq_decide_eq]
      exact t
    · exact t.elim
  · exact t.elim
/-- xs[i] -/
theorem atI_dp {K : PySem.W.Frag} {h : Hp} {xs : List V} {ds : List PyData} {i : Int} {d : PyData} (ha : DpAll K h xs ds) (e : atI ds i = some d) : ∃ v, atI xs i = some v ∧ Dp K h v d := by
  unfold atI at e ⊢
  rw [DpAll.length ha]
  cases hj : ixN ds.length i with
  | none => rw [hj] at e; cases e
  | some j =>
    rw [hj] at e
    obtain ⟨v, h1, h2⟩ := DpAll.get ha (show ds[j]? = some d from e)
    exact ⟨v, h1, h2⟩
def rIx3 : R3 := fun x y S Q => match y with
  | .p (.int i) => (match x with
    | .p (.str z) => z.length ≤ 16777216 ∧ (match atI z.cps.toList i with
      | some c => Q (.p (.str ⟨#[c]⟩)) S
      | none => False)
    | _ => match seq3 S x with
      | some ds => (match atI ds i with
        | some d => Q (.p d) S
        | none => False)
      | none => False)
  | _ => False
theorem iq_seq : IQ X rIx3 := IxR.imp ix_seq fun x y H R ⟨w, S, d, e, Q, r0, p1, p2, t, q⟩ => by
  have hz : sizeLine = 16777216 := sizeLine_eq
  unfold rIx3 at t
  split at t
  · have hy := dp_int p2
    subst hy
    split at t
    · obtain ⟨hl, t⟩ := t
      split at t
      · rename_i c hc
        exact .inr (.inr ⟨_, _, c, dp_str p1, rfl, by omega, hc, q.str r0 t⟩)
      · exact t.elim
    · split at t
      · rename_i ds h1
        split at t
        rotate_left
        · exact t.elim
        rename_i d' hd
        obtain ⟨a, xs, rfl, hq, ha, _⟩ := seq3_low r0 p1 h1
        obtain ⟨v, h2, h3⟩ := atI_dp ha hd
        rcases hq with hq | hq
        · exact .inl ⟨a, xs, _, v, rfl, rfl, hq, h2, q.old (d := .p d') r0 h3 t⟩
        · exact .inr (.inl ⟨a, xs, _, v, rfl, rfl, hq, h2, q.old (d := .p d') r0 h3 t⟩)
      · exact t.elim
  · exact t.elim
/-! #### built-ins -/
def rLen3 : C3 := fun ds S Q => match ds with
  | [.p (.str z)] => z.length ≤ 16777216 ∧ Q (.p (.int z.length)) S
  | [d] => match seq3 S d with
    | some es => Q (.p (.int es.length)) S
    | none => False
  | _ => False
theorem rds1 {K : PySem.W.Frag} {w : W3} {vs : List V} {d : D} (h : RepDs K w vs [d]) : ∃ v, vs = [v] ∧ RepD K w v d := by
  match vs, h with
  | [v], h => exact ⟨v, rfl, h.1⟩
  | [], h => exact h.elim
  | _ :: _ :: _, h => exact h.2.elim
theorem rds2 {K : PySem.W.Frag} {w : W3} {vs : List V} {d e : D} (h : RepDs K w vs [d, e]) : ∃ v u, vs = [v, u] ∧ RepD K w v d ∧ RepD K w u e := by
  match vs, h with
  | [v, u], h => exact ⟨v, u, rfl, h.1, h.2.1⟩
  | [], h => exact h.elim
  | [_], h => exact h.2.elim
  | _ :: _ :: _ :: _, h => exact h.2.2.elim
theorem cq_len : CQ X (.builtin "len") rLen3 := callq call_len fun w S ds xs H Q R r0 p1 t q => by
  have hz : sizeLine = 16777216 := sizeLine_eq
  unfold rLen3 at t
  split at t
  · obtain ⟨v, rfl, p⟩ := rds1 p1
    have := dp_str p
    subst this
    exact ⟨_, _, rfl, ⟨by omega, rfl⟩, q.int r0 t.2⟩
  · obtain ⟨v, rfl, p⟩ := rds1 p1
    split at t
    · rename_i es h1
      obtain ⟨a, ys, rfl, hq, ha, _⟩ := seq3_low r0 p h1
      have hl := DpAll.length ha
      refine ⟨_, es.length, rfl, ?_, q.int r0 t⟩
      rcases hq with hq | hq
      · exact .inl ⟨ys, hq, hl.symm⟩
      · exact .inr ⟨ys, hq, hl.symm⟩
    · exact t.elim
  · exact t.elim
def rIntOf3 : C3 := fun ds S Q => match ds with
  | [.p (.int i)] => Q (.p (.int i)) S
  | [.p (.bool b)] => Q (.p (.int (if b then 1 else 0))) S
  | _ => False
theorem cq_int : CQ X (.type "int") rIntOf3 := callq call_int1 fun w S ds xs H Q R r0 p1 t q => by
  unfold rIntOf3 at t
  split at t
  · obtain ⟨v, rfl, p⟩ := rds1 p1
    have := dp_int p
    subst this
    exact .inl ⟨_, rfl, q.int r0 t⟩
  · obtain ⟨v, rfl, p⟩ := rds1 p1
    have := dp_bl p
    subst this
    exact .inr ⟨_, rfl, q.int r0 t⟩
  · exact t.elim
def rInt2 (g : Int → Int → Int) : C3 := fun ds S Q => match ds with
  | [.p (.int i), .p (.int j)] => Q (.p (.int (g i j))) S
  | _ => False
theorem cq_max2 (hc : X.calm = true) : CQ X (.builtin "max") (rInt2 fun i j => if j > i then j else i) := callq (call_max2 hc) fun w S ds xs H Q R r0 p1 t q => by
  unfold rInt2 at t
  split at t
  · obtain ⟨v, u, rfl, p, p'⟩ := rds2 p1
    have := dp_int p
    subst this
    have := dp_int p'
    subst this
    exact ⟨_, _, rfl, q.int r0 t⟩
  · exact t.elim
theorem cq_min2 (hc : X.calm = true) : CQ X (.builtin "min") (rInt2 fun i j => if j < i then j else i) := callq (call_min2 hc) fun w S ds xs H Q R r0 p1 t q => by
  unfold rInt2 at t
  split at t
  · obtain ⟨v, u, rfl, p, p'⟩ := rds2 p1
    have := dp_int p
    subst this
    have := dp_int p'
    subst this
    exact ⟨_, _, rfl, q.int r0 t⟩
  · exact t.elim
def rTupOf3 : C3 := fun ds S Q => match ds with
  | [d] => match seq3 S d with
    | some es => Q (.p (.tuple es)) S
    | none => False
  | _ => False
theorem cq_tuple : CQ X (.type "tuple") rTupOf3 := callq call_tuple_of fun w S ds xs H Q R r0 p1 t q => by
  unfold rTupOf3 at t
  split at t
  · obtain ⟨v, rfl, p⟩ := rds1 p1
    split at t
    · rename_i es h1
      unfold seq3 at h1
      split at h1
      · cases h1
        obtain ⟨a, ys, rfl, hq, ha⟩ := dp_tup_ref p
        exact ⟨a, ys, rfl, .inr ⟨Same.sqT r0.sub hq, q.old r0 p t⟩⟩
      · obtain ⟨a, ys, rfl, hq, ha, hz⟩ := lst3_low r0 p h1
        exact ⟨a, ys, rfl, .inl ⟨hq, q.tup r0 ha hz t⟩⟩
    · exact t.elim
  · exact t.elim
/-- isinstance(x, T), T the name of a built-in class -/
def tyOf : PyData → String
  | .none => "NoneType"
  | .bool _ => "bool"
  | .int _ => "int"
  | .str _ => "str"
  | .list _ => "list"
  | .tuple _ => "tuple"
  | .dict _ => "dict"
end
end L3

namespace L3
open PySem PySem.Spec PyProof.Rows L2
/-! ### own lists changed -/
def own3 (S : S3) : D → Option (Nat × List PyData)
  | .loc n => match S[n]? with
    | some (some (.lst ds)) => some (n, ds)
    | _ => none
  | _ => none
theorem own3_low {K : PySem.W.Frag} {w : W3} {H : Hp} {S : S3} {v : V} {d : D} {n : Nat} {ds : List PyData} (r : Rel3 K w H S) (p : RepD K w v d) (h : own3 S d = some (n, ds)) :
    ∃ a xs, v = .ref a ∧ d = .loc n ∧ w.al[n]? = some a ∧ S[n]? = some (some (.lst ds)) ∧ H a = some (.lst xs) ∧ DpAll K w.h xs ds ∧ ds.length ≤ sizeLine := by
  unfold own3 at h
  split at h
  · split at h
    · rename_i es hs
      cases h
      obtain ⟨a, ha, rfl⟩ := p
      obtain ⟨_, u, hu, xs, rfl, hd, hz⟩ := r.live n a _ ha hs
      exact ⟨a, xs, rfl, rfl, ha, hs, hu, hd, hz⟩
    · cases h
  · cases h
/-- o[i] = e -/
def tPut3 (te to ti : TE3) : TS3 := fun D env S => te env S fun v S1 => to env S1 fun o S2 => ti env S2 fun i S3 => match own3 S3 o, i, v with
  | some (n, ds), .p (.int k), .p d => (match ixN ds.length k with
    | some j => D.nx env (S3.set n (some (.lst (ds.set j d))))
    | none => False)
  | _, _, _ => False
section
variable {X : Cx} {o i e : Expr} {to ti te : TE3} {pos pos' apos cpos : Pos}
theorem qs_put (he : QE X e te) (ho : QE X o to) (hi : QE X i ti)
    (ha : ∀ v, assign (.Subscript o i pos') X.env v = (do
      let ov ← holding [v] (eval o X.env)
      let iv ← holding [v, ov] (eval i X.env)
      standAt pos'
      holding [v, ov, iv] (setItem ov iv v)
      release [v, ov, iv] []) := by intro _; rfl) (hs : swapsWithSole [.Subscript o i pos'] e pos.line X.env = pure false := by rfl) (hw : swappedStores [.Subscript o i pos'] e X.env = pure none := by rfl)
    (h1 : (assignEach [.Subscript o i pos'] X.env).map (·.2) = [assign (.Subscript o i pos') X.env] := by rfl) : QS X (.Assign [.Subscript o i pos'] e pos) (tPut3 te to ti) :=
  (ps_asg he (pg_sub ho hi set_list ha) hs hw h1).imp fun D σ H ⟨w, env, S, D3, r0, en, t, q⟩ => by
    refine ⟨w, env, S, _, r0, en, t, fun w1 v d H1 S1 e1 r1 p1 t1 => ?_⟩
    refine ⟨w1, env, S1, _, r1, en.mono e1, t1, fun w2 u c H2 S2 e2 r2 p2 t2 => ?_⟩
    refine ⟨w2, env, S2, _, r2, (en.mono e1).mono e2, t2, fun w3 z b H3 S3 e3 r3 p3 t3 => ?_⟩
    have p2' := p2.mono e3
    have p1' := (p1.mono e2).mono e3
    split at t3
    · rename_i n ds k d' ho'
      split at t3
      rotate_left
      · exact t3.elim
      rename_i j hj
      obtain ⟨a, xs, rfl, rfl, ha, hs, hu, hd, hz⟩ := own3_low r3 p2' ho'
      refine ⟨a, xs, k, j, rfl, dp_int p3, hu, by rw [DpAll.length hd]; exact hj, ?_⟩
      exact q.nx w3 σ _ env _ ((e1.trans e2).trans e3) (r3.put (o' := .lst (ds.set j d')) ha hs ⟨_, rfl, DpAll.set p1' j hd, by rw [List.length_set]; exact hz⟩) (((en.mono e1).mono e2).mono e3) t3
    · exact t3.elim
/-- xs.append(e) -/
def tApp3 (to te : TE3) : TE3 := fun env S Q => to env S fun o S1 => match own3 S1 o with
  | some _ => te env S1 fun v S2 => match own3 S2 o, v with
    | some (n, ds), .p d => ds.length < 16777216 ∧ Q (.p .none) (S2.set n (some (.lst (ds ++ [d]))))
    | _, _ => False
  | none => False
theorem qe_append (ho : QE X o to) (he : QE X e te) (hbase : attributeBase o "append" X.env (eval o X.env) = eval o X.env := by rfl)
    (hfew : ((backTo cpos (starEach [e] X.env)).all (fun x => !x.1) && (backToKw cpos (keywordEach [] X.env)).all (fun x => x.1.isSome)
      && decide (([e] : List Expr).length + ([] : List Keyword).length + (if ([] : List Keyword).isEmpty then 0 else 1) < 30)) = true := by rfl)
    (hline : (apos.endLine == cpos.line) = true := by rfl) (hs : starEach [e] X.env = (false, eval e X.env) :: starEach [] X.env := by rfl) (hplain : (backTo cpos (starEach [] X.env)).any (·.1) = false := by rfl) :
    QE X (.Call (.Attribute o "append" apos) [e] [] cpos) (tApp3 to te) :=
  (pe_bm PySem.F.plainAttrs_list PySem.F.slot_list_append PySem.F.type_list_append mt_append ho (pa_cons he pa_nil hs) hbase hfew hline hs hplain).imp fun σ H R ⟨w, env, S, Q, r0, en, t, q⟩ => by
    have hz : sizeLine = 16777216 := sizeLine_eq
    refine ⟨w, env, S, _, r0, en, t, fun w1 v d H1 S1 e1 r1 p1 t1 => ?_⟩
    split at t1
    · rename_i nd ho1
      obtain ⟨n0, ds0⟩ := nd
      obtain ⟨a0, xs0, rfl, hd0, _, _, hu0, _, _⟩ := own3_low r1 p1 ho1
      refine ⟨.inl ⟨rfl, xs0, .inl (.inl hu0)⟩, ?_⟩
      refine ⟨w1, env, S1, _, r1, en.mono e1, t1, fun w2 u c H2 S2 e2 r2 p2 t2 => ?_⟩
      split at t2
      · rename_i n ds d' ho2
        obtain ⟨a, xs, hva, rfl, ha, hs, hu, hd, hzz⟩ := own3_low r2 (p1.mono e2) ho2
        cases hva
        have hl := DpAll.length hd
        refine ⟨_, xs, u, rfl, rfl, hu, by omega, ?_⟩
        exact q w2 .non (.p .none) _ _ (e1.trans e2) (r2.put (o' := .lst (ds ++ [d'])) ha hs ⟨_, rfl, DpAll.append hd (.cons p2 .nil), by rw [List.length_append, List.length_singleton]; omega⟩) rep_non t2.2
      · exact t2.elim
    · exact t1.elim
/-- xs.pop() -/
def tPop3 (to : TE3) : TE3 := fun env S Q => to env S fun o S1 => match own3 S1 o with
  | some (n, ds) => (match ds.getLast? with
    | some d => Q (.p d) (S1.set n (some (.lst ds.dropLast)))
    | none => False)
  | none => False
theorem DpAll.dropLast {K : PySem.W.Frag} {h : Hp} {vs : List V} {ds : List PyData} (r : DpAll K h vs ds) : DpAll K h vs.dropLast ds.dropLast := by
  rw [List.dropLast_eq_take, List.dropLast_eq_take, DpAll.length r]
  exact DpAll.take _ r
theorem qe_pop (ho : QE X o to) (hbase : attributeBase o "pop" X.env (eval o X.env) = eval o X.env := by rfl) (hline : (apos.endLine == cpos.line) = true := by rfl) :
    QE X (.Call (.Attribute o "pop" apos) [] [] cpos) (tPop3 to) :=
  (pe_bm0 PySem.F.plainAttrs_list PySem.F.slot_list_pop PySem.F.type_list_pop mt_pop ho hbase hline).imp fun σ H R ⟨w, env, S, Q, r0, en, t, q⟩ => by
    refine ⟨w, env, S, _, r0, en, t, fun w1 v d H1 S1 e1 r1 p1 t1 => ?_⟩
    split at t1
    · rename_i n ds ho1
      split at t1
      rotate_left
      · exact t1.elim
      rename_i d' hd'
      rw [List.getLast?_eq_getElem?] at hd'
      obtain ⟨a, xs, rfl, rfl, ha, hs, hu, hd, hz⟩ := own3_low r1 p1 ho1
      obtain ⟨u, h1, h2⟩ := DpAll.get hd hd'
      refine ⟨.inl ⟨rfl, xs, .inl (.inl hu)⟩, a, xs, u, rfl, rfl, hu, by rw [DpAll.length hd]; exact h1, ?_⟩
      exact q w1 u (.p d') _ _ e1 (r1.put (o' := .lst ds.dropLast) ha hs ⟨_, rfl, DpAll.dropLast hd, by rw [List.length_dropLast]; omega⟩) h2 t1
    · exact t1.elim
/-- xs.pop(i) -/
def tPopAt3 (to ti : TE3) : TE3 := fun env S Q => to env S fun o S1 => match own3 S1 o with
  | some _ => ti env S1 fun i S2 => match own3 S2 o, i with
    | some (n, ds), .p (.int k) => (match ixN ds.length k with
      | some j => (match ds[j]? with
        | some d => Q (.p d) (S2.set n (some (.lst (ds.eraseIdx j))))
        | none => False)
      | none => False)
    | _, _ => False
  | none => False
theorem qe_popAt (ho : QE X o to) (he : QE X e te) (hbase : attributeBase o "pop" X.env (eval o X.env) = eval o X.env := by rfl)
    (hfew : ((backTo cpos (starEach [e] X.env)).all (fun x => !x.1) && (backToKw cpos (keywordEach [] X.env)).all (fun x => x.1.isSome)
      && decide (([e] : List Expr).length + ([] : List Keyword).length + (if ([] : List Keyword).isEmpty then 0 else 1) < 30)) = true := by rfl)
    (hline : (apos.endLine == cpos.line) = true := by rfl) (hs : starEach [e] X.env = (false, eval e X.env) :: starEach [] X.env := by rfl) (hplain : (backTo cpos (starEach [] X.env)).any (·.1) = false := by rfl) :
    QE X (.Call (.Attribute o "pop" apos) [e] [] cpos) (tPopAt3 to te) :=
  (pe_bm PySem.F.plainAttrs_list PySem.F.slot_list_pop PySem.F.type_list_pop mt_popAt ho (pa_cons he pa_nil hs) hbase hfew hline hs hplain).imp fun σ H R ⟨w, env, S, Q, r0, en, t, q⟩ => by
    have hz : sizeLine = 16777216 := sizeLine_eq
    refine ⟨w, env, S, _, r0, en, t, fun w1 v d H1 S1 e1 r1 p1 t1 => ?_⟩
    split at t1
    · rename_i nd ho1
      obtain ⟨n0, ds0⟩ := nd
      obtain ⟨a0, xs0, rfl, hd0, _, _, hu0, _, _⟩ := own3_low r1 p1 ho1
      refine ⟨.inl ⟨rfl, xs0, .inl (.inl hu0)⟩, ?_⟩
      refine ⟨w1, env, S1, _, r1, en.mono e1, t1, fun w2 u c H2 S2 e2 r2 p2 t2 => ?_⟩
      split at t2
      · rename_i n ds k ho2
        split at t2
        rotate_left
        · exact t2.elim
        rename_i j hj
        split at t2
        rotate_left
        · exact t2.elim
        rename_i d' hd'
        obtain ⟨a, xs, hva, rfl, ha, hs, hu, hd, hzz⟩ := own3_low r2 (p1.mono e2) ho2
        cases hva
        have hl := DpAll.length hd
        obtain ⟨h1, h2, h3, h4⟩ := ixN_seq hj
        obtain ⟨y, h5, h6⟩ := DpAll.get hd hd'
        have := dp_int p2
        subst this
        refine ⟨_, xs, k, j, y, rfl, rfl, hu, by omega, by omega, by rw [hl]; exact h1, h5, ?_⟩
        exact q w2 y (.p d') _ _ (e1.trans e2) (r2.put (o' := .lst (ds.eraseIdx j)) ha hs ⟨_, rfl, DpAll.eraseIdx j hd, Nat.le_trans (List.length_eraseIdx_le ..) hzz⟩) (RepD.mono0 (Ex3.refl w2).toEx0 h6) t2
      · exact t2.elim
    · exact t1.elim

/-! ### isinstance(x, T) -/
def isTy (T : String) : PyData → Bool
  | .none => T == "NoneType"
  | .bool _ => T == "bool" || T == "int"
  | .int _ => T == "int"
  | .str _ => T == "str"
  | .list _ => T == "list"
  | .tuple _ => T == "tuple"
  | .dict _ => T == "dict"
def tIsi3 (T : String) (te : TE3) : TE3 := fun env S Q => te env S fun x S1 => match x with
  | .p d => Q (.p (.bool (isTy T d))) S1
  | .loc n => match S1[n]? with
    | some (some (.lst _)) => Q (.p (.bool (T == "list"))) S1
    | some (some (.dic _)) => Q (.p (.bool (T == "dict"))) S1
    | _ => False
def kitAll (T : String) : Bool := decide (kitB "NoneType" T = some (T == "NoneType")) && decide (kitB "bool" T = some (T == "bool" || T == "int")) && decide (kitB "int" T = some (T == "int")) && decide (kitB "str" T = some (T == "str")) && decide (kitB "list" T = some (T == "list")) && decide (kitB "tuple" T = some (T == "tuple")) && decide (kitB "dict" T = some (T == "dict"))
theorem isi_low {K : PySem.W.Frag} {w : W3} {H : Hp} {S : S3} {v : V} {d : PyData} {T : String} (hk : kitAll T = true) (r : Rel3 K w H S) (p : Dp K w.h v d) : ∃ t, TyX K H v t ∧ PySem.W.kitOne K t (.type T) = some (isTy T d) := by
  unfold kitAll at hk
  simp only [Bool.and_eq_true, decide_eq_true_eq] at hk
  obtain ⟨⟨⟨⟨⟨⟨k1, k2⟩, k3⟩, k4⟩, k5⟩, k6⟩, k7⟩ := hk
  cases p with
  | non => exact ⟨_, .base .non, kit_ty k1⟩
  | bl b => exact ⟨_, .base (.bl b), kit_ty k2⟩
  | int i => exact ⟨_, .base (.int i), kit_ty k3⟩
  | str x => exact ⟨_, .base (.str x), kit_ty k4⟩
  | lst hs ha =>
    rcases hs with (hs | ⟨o, hs⟩) | ⟨o, its, n, hk, hc, _, hd, _, _⟩
    · exact ⟨_, .base (.lst (r.sub _ _ hs)), kit_ty k5⟩
    · exact ⟨_, .base (.frz (r.sub _ _ hs)), kit_ty k5⟩
    · exact ⟨_, .kList hk hc, kit_ty k5⟩
  | tup hs ha =>
    rcases hs with (hs | ⟨o, hs⟩) | ⟨o, its, n, hk, hc, hd, _, _⟩
    · exact ⟨_, .base (.tup (r.sub _ _ hs)), kit_ty k6⟩
    · exact ⟨_, .fTuple (r.sub _ _ hs), kit_ty k6⟩
    · exact ⟨_, .kTuple hk hc, kit_ty k6⟩
theorem qe_isi {T : String} {x : Str} {pi px : Pos} (hk : kitAll T = true) (hg : Gl X "isinstance") (hm : X.mg "isinstance" = none) (hgx : Gl X x) (hmx : X.mg x = none) (hvx : bootBuiltins x = some (.type T)) (hnx : x ≠ "__name__") (hdx : (x == ("__debug__" : Str)) = false) (he : QE X e te)
    (h1 : starEach [e, .Name x px] X.env = (false, eval e X.env) :: starEach [.Name x px] X.env := by rfl) (h2 : starEach [.Name x px] X.env = (false, eval (.Name x px) X.env) :: starEach [] X.env := by rfl) (hpl : (backTo pos (starEach [.Name x px] X.env)).any (·.1) = false := by rfl) :
    QE X (.Call (.Name "isinstance" pi) [e, .Name x px] [] pos) (tIsi3 T te) :=
  (pe_callB call_isi hg hm (by decide +kernel) (pa_cons he (pa_cons (pe_bltn (v := .ty T) hgx hmx hvx rfl hnx hdx) pa_nil h2) h1) (by decide) (by decide) h1 hpl).imp fun σ H R ⟨w, env, S, Q, r0, en, t, q⟩ => by
    refine ⟨w, env, S, _, r0, en, t, fun w1 v d H1 S1 e1 r1 p1 t1 => ?_⟩
    split at t1
    · rename_i d
      obtain ⟨ty, h3, h4⟩ := isi_low hk r1 p1
      exact ⟨v, .ty T, ty, .type T, _, rfl, .ty T, h3, h4, q _ _ _ _ _ e1 r1 rep_bl t1⟩
    · unfold kitAll at hk
      simp only [Bool.and_eq_true, decide_eq_true_eq] at hk
      obtain ⟨⟨⟨⟨⟨⟨k1, k2⟩, k3⟩, k4⟩, k5⟩, k6⟩, k7⟩ := hk
      obtain ⟨a, ha, rfl⟩ := p1
      split at t1
      · rename_i ds hs
        obtain ⟨_, u, hu, xs, rfl, hd, hz⟩ := r1.live _ a _ ha hs
        exact ⟨_, .ty T, _, .type T, _, rfl, .ty T, .base (.lst hu), kit_ty k5, q _ _ _ _ _ e1 r1 rep_bl t1⟩
      · rename_i ds hs
        obtain ⟨_, u, hu, xs, rfl, hd⟩ := r1.live _ a _ ha hs
        exact ⟨_, .ty T, _, .type T, _, rfl, .ty T, .base (.dT hu), kit_ty k7, q _ _ _ _ _ e1 r1 rep_bl t1⟩
      · exact t1.elim
end
/-! ### a law's own entry -/
theorem dpAll_ints {K : PySem.W.Frag} {h : Hp} : ∀ ns : List Int, DpAll K h (ns.map V.int) (ns.map PyData.int)
  | [] => .nil
  | n :: ns => .cons (.int n) (dpAll_ints ns)
def spLaw3 : Sp3 := fun ds S Q => ∃ ns : List Int, ds = [.p (.list (ns.map PyData.int))] ∧ ns.length ≤ 63 ∧ S = [] ∧ ∀ S', Q (.p (.bool true)) S'
theorem law_in {K : PySem.W.Frag} {H : Hp} {a : Addr} {ns : List Int} {Q : VK} (hl : ns.length ≤ 63) (hS : SqL K H a (ns.map V.int)) (hQ : ∀ H', Q (.bl true) H') : lowC K spLaw3 [.ref a] H Q := by
  have hz : sizeLine = 16777216 := sizeLine_eq
  have fin : ∀ w : W3, Rel3 K w H [] → SqL K w.h a (ns.map V.int) → lowC K spLaw3 [.ref a] H Q := fun w r hq => by
    refine ⟨w, [], [.p (.list (ns.map PyData.int))], fun d _ => d = .p (.bool true), r, ⟨.lst hq (dpAll_ints ns), trivial⟩, ⟨ns, rfl, hl, rfl, fun _ => rfl⟩, fun w' v d H' S' e r' p h => ?_⟩
    subst h
    have := dp_bl p
    subst this
    exact hQ H'
  have tracked : ∀ u, H a = some u → (u = .lst (ns.map V.int) ∨ ∃ o, u = .frz o (.lst (ns.map V.int))) → lowC K spLaw3 [.ref a] H Q := fun u hu hk => by
    refine fin ⟨[], upd (fun _ => none) a u, []⟩ ⟨fun b x e => ?_, fun b x e => ?_, rfl, fun n b o e => by simp at e, fun n b e => by simp at e, List.nodup_nil, fun b x hb => by simp at hb, List.nodup_nil⟩ ?_
    · have e' : upd (fun _ => none) a u b = some x := e
      by_cases hb : b = a
      · subst hb
        rw [upd_same] at e'
        cases e'
        exact hu
      · rw [upd_ne hb] at e'
        cases e'
    · have e' : upd (fun _ => none) a u b = some x := e
      by_cases hb : b = a
      · subst hb
        rw [upd_same] at e'
        cases e'
        rcases hk with rfl | ⟨o, rfl⟩
        · show (ns.map V.int).length ≤ _
          rw [List.length_map]
          omega
        · show (ns.map V.int).length ≤ _
          rw [List.length_map]
          omega
      · rw [upd_ne hb] at e'
        cases e'
    · rcases hk with rfl | ⟨o, rfl⟩
      · exact .inl (.inl (upd_same (H := fun _ => none) (a := a)))
      · exact .inl (.inr ⟨o, upd_same (H := fun _ => none) (a := a)⟩)
  rcases hS with (h | ⟨o, h⟩) | h
  · exact tracked _ h (.inl rfl)
  · exact tracked _ h (.inr ⟨o, rfl⟩)
  · exact fin ⟨[], fun _ => none, []⟩ ⟨(fun b x e => nomatch e), (fun b x e => nomatch e), rfl, (fun n b o e => by simp at e), (fun n b e => by simp at e), List.nodup_nil, (fun b x hb => by simp at hb), List.nodup_nil⟩ (.inr h)
/-! ### repr of ints, None, truths -/
def rRepr3 : C3 := fun ds S Q => match ds with
  | [.p (.int i)] => i.natAbs.log2 < 1920 ∧ Q (.p (.str (toString i))) S
  | [.p .none] => Q (.p (.str "None")) S
  | _ => False
section
variable {X : Cx}
theorem call_repr_i : CallR X (.builtin "repr") (fun xs H Q => (∃ i, xs = [.int i] ∧ i.natAbs.log2 < 1920 ∧ Q (.str (toString i)) H) ∨ (xs = [.non] ∧ Q (.str "None") H)) := by
  intro pins s σ H xs us Q I r h
  rcases h with ⟨i, rfl, hz, q⟩ | ⟨rfl, q⟩
  · obtain ⟨u, rfl, t, rfl⟩ := vals1 r
    exact PySem.P.repr_of_int hz ⟨.str _, H, I.tok _, ⟨_, rfl⟩, q⟩
  · obtain ⟨u, rfl, r1⟩ := vals1 r
    cases r1
    exact PySem.P.repr_of_none ⟨.str _, H, I.tok _, ⟨_, rfl⟩, q⟩
theorem cq_repr : CQ X (.builtin "repr") rRepr3 := callq call_repr_i fun w S ds xs H Q R r0 p1 t q => by
  unfold rRepr3 at t
  split at t
  · obtain ⟨v, rfl, p⟩ := rds1 p1
    have := dp_int p
    subst this
    exact .inl ⟨_, rfl, t.1, q.str r0 t.2⟩
  · obtain ⟨v, rfl, p⟩ := rds1 p1
    have := dp_non p
    subst this
    exact .inr ⟨rfl, q.str r0 t⟩
  · exact t.elim
def rNeg3 : U3 := fun x S Q => match x with
  | .p (.int i) => Q (.p (.int (-i))) S
  | _ => False
theorem uq_neg : UQ X (unaryOp .USub) rNeg3 := UnR.imp un_neg fun x H R ⟨w, S, d, Q, r0, p, t, q⟩ => by
  unfold rNeg3 at t
  split at t
  · exact ⟨_, dp_int p, q.int r0 t⟩
  · exact t.elim
end
end L3

namespace L3
open PySem PySem.Spec PyProof.Rows L2
/-! ### for readings -/
theorem eqv_int (a b : Int) : PyData.eqv (.int a) (.int b) = (a == b) := by simp [PyData.eqv]
theorem eqv_bool (a b : Bool) : PyData.eqv (.bool a) (.bool b) = (a == b) := by simp [PyData.eqv]
theorem eqv_str (a b : Str) : PyData.eqv (.str a) (.str b) = (a == b) := by simp [PyData.eqv]
theorem eqv_ni (a : Int) : PyData.eqv .none (.int a) = false := by simp [PyData.eqv]
theorem eqv_in (a : Int) : PyData.eqv (.int a) .none = false := by simp [PyData.eqv]
theorem shaped_int (a : Int) : SeqAt.shaped (.int a) = true := rfl
theorem shaped_bool (a : Bool) : SeqAt.shaped (.bool a) = true := rfl
theorem shaped_none : SeqAt.shaped .none = true := rfl
theorem strOk_of (s : String) : PyData.strOk (PySem.Str.ofString s) = true := by
  rw [PySem.Str.ofString_eq_toList]
  unfold PyData.strOk
  rw [← Array.all_toList]
  simp only [List.all_eq_true, decide_eq_true_eq]
  intro c hc
  obtain ⟨d, _, rfl⟩ := List.mem_map.mp (by simpa using hc)
  have := d.valid
  rcases this with h | ⟨_, h⟩
  · exact Nat.lt_trans h (by decide)
  · exact h
theorem shaped_str {x : Str} (h : PyData.strOk x = true) : SeqAt.shaped (.str x) = true := by
  unfold SeqAt.shaped PyData.canLay0
  rw [h]
  rfl
theorem eqv_str_self (a : Str) : PyData.eqv (.str a) (.str a) = true := by rw [eqv_str]; simp
theorem shaped_ofStr (s : String) : SeqAt.shaped (.str (PySem.Str.ofString s)) = true := shaped_str (strOk_of s)
theorem Fits.nil {L : Nat} : Fits [] [] L := ⟨rfl, fun i d h => by simp [at3] at h⟩
theorem Fits.drop {r r' : E3} {x : Option D} {L : Nat} (h : Fits r r' L) : Fits (x :: r) (none :: r') L := ⟨congrArg (· + 1) h.1, fun i d q => by
  cases i with
  | zero => simp [at3] at q
  | succ i => exact h.2 i d q⟩
theorem Fits.keep {r r' : E3} {x : PyData} {L : Nat} (h : Fits r r' L) : Fits (some (.p x) :: r) (some (.p x) :: r') L := ⟨congrArg (· + 1) h.1, fun i d q => by
  cases i with
  | zero =>
    simp [at3] at q
    subst q
    exact ⟨rfl, trivial⟩
  | succ i => exact h.2 i d q⟩
theorem Fits.loc {r r' : E3} {n L : Nat} (hn : n < L) (h : Fits r r' L) : Fits (some (.loc n) :: r) (some (.loc n) :: r') L := ⟨congrArg (· + 1) h.1, fun i d q => by
  cases i with
  | zero =>
    simp [at3] at q
    subst q
    exact ⟨rfl, hn⟩
  | succ i => exact h.2 i d q⟩
theorem wk_self {n : Nat} {I : E3 → S3 → Prop} {e : E3} {s : S3} (h : I e s) : Wk n I e s := .inl h
/-- a hand of three ints at n -/
def Hd (S : S3) (n : Nat) : Prop := ∃ g x c : Int, S[n]? = some (some (.lst [.int g, .int x, .int c]))
def HdTo (n : Nat) (S S' : S3) : Prop := ∃ g x c : Int, S' = S.set n (some (.lst [.int g, .int x, .int c]))
theorem Hd.lt {S : S3} {n : Nat} (h : Hd S n) : n < S.length := by
  obtain ⟨_, _, _, e⟩ := h
  exact (List.getElem?_eq_some_iff.mp e).1
theorem HdTo.len {S S' : S3} {n : Nat} (h : HdTo n S S') : S'.length = S.length := by
  obtain ⟨_, _, _, rfl⟩ := h
  simp
theorem HdTo.hd {S S' : S3} {n : Nat} (h : HdTo n S S') (h0 : Hd S n) : Hd S' n := by
  obtain ⟨g, x, c, rfl⟩ := h
  exact ⟨g, x, c, by rw [List.getElem?_set_self h0.lt]⟩
theorem HdTo.trans {S S' S'' : S3} {n : Nat} (h : HdTo n S S') (h' : HdTo n S' S'') : HdTo n S S'' := by
  obtain ⟨g, x, c, rfl⟩ := h
  obtain ⟨g', x', c', rfl⟩ := h'
  exact ⟨g', x', c', by rw [List.set_set]⟩
theorem fin_hd {n : Nat} {S S' : S3} {Q : K3} {d : PyData} (h : HdTo n S S') (q : Q (.p d) S') : Fin3 S Q (.p d) S' := fin_all (by rw [h.len]; exact Nat.le_refl _) trivial q
theorem ixN_lit (n k : Nat) : ixN n (no_index (@OfNat.ofNat Int k instOfNat)) = if k < n then some k else none := by
  show ixN n ((k : Nat) : Int) = _
  unfold ixN
  rw [if_pos (by omega)]
  by_cases h : k < n
  · rw [if_pos (by omega), if_pos h]
    simp
  · rw [if_neg (by omega), if_neg h]
theorem atI_lit {α : Type} (xs : List α) (k : Nat) : atI xs (no_index (@OfNat.ofNat Int k instOfNat)) = xs[k]? := by
  unfold atI
  rw [ixN_lit]
  by_cases h : k < xs.length
  · rw [if_pos h]
    rfl
  · rw [if_neg h, List.getElem?_eq_none (by omega)]
    rfl
theorem atI_of {α : Type} {xs : List α} {i : Int} {v : α} (h0 : 0 ≤ i) (h : xs[i.toNat]? = some v) : atI xs i = some v := by
  obtain ⟨n, rfl⟩ := Int.eq_ofNat_of_zero_le h0
  exact atI_nat (by simpa using h)
theorem atI_neg1 {α : Type} (xs : List α) : atI xs (-1) = xs.getLast? := by
  unfold atI ixN
  rw [if_neg (by decide)]
  by_cases h : xs = []
  · subst h
    rfl
  · have hl : 0 < xs.length := by
      cases xs with
      | nil => exact absurd rfl h
      | cons => simp
    rw [if_pos (by omega), List.getLast?_eq_getElem?]
    show xs[(-1 + (xs.length : Int)).toNat]? = _
    congr 1
    omega
theorem mulOk_ite (z : Int) (b : Prop) [Decidable b] : MulOk z (if b then 1 else 0) := by
  refine .inr (.inl ?_)
  split <;> constructor <;> decide
instance (i j : Int) : Decidable (MulOk i j) := by unfold MulOk CMulW; infer_instance
instance (i j : Int) : Decidable (DivOk i j) := by unfold DivOk; infer_instance
instance (i j : Int) : Decidable (PowOk i j) := by unfold PowOk; infer_instance
end L3

namespace G_k38
open PySem PySem.Spec PyProof.Rows L2 L3
def topS (i : Nat) : Stmt := PySem.Challenge.pw_windowfloor_k38_meetings.main.body.getD i (.Pass ⟨0, 0, 0, 0⟩)
abbrev s_greatest_part : Stmt := topS 1
abbrev nm_greatest_part : List Str := ["one", "other"]
theorem sc_greatest_part : FnScope nm_greatest_part ["one", "other"] (defScope s_greatest_part) := ⟨rfl, rfl, rfl, by decide +kernel, rfl, by decide +kernel, by decide +kernel⟩
abbrev s_turned_by : Stmt := topS 2
abbrev nm_turned_by : List Str := ["one", "many", "here", "there", "before", "by", "times"]
theorem sc_turned_by : FnScope nm_turned_by ["one", "many"] (defScope s_turned_by) := ⟨rfl, rfl, rfl, by decide +kernel, rfl, by decide +kernel, by decide +kernel⟩
abbrev s_meeting : Stmt := topS 3
abbrev nm_meeting : List Str := ["one", "m", "other", "n", "part", "often"]
theorem sc_meeting : FnScope nm_meeting ["one", "m", "other", "n"] (defScope s_meeting) := ⟨rfl, rfl, rfl, by decide +kernel, rfl, by decide +kernel, by decide +kernel⟩
abbrev s__law_hand : Stmt := topS 5
abbrev nm__law_hand : List Str := ["_law_script", "_law_k", "_law_cell", "_law_great"]
theorem sc__law_hand : FnScope nm__law_hand ["_law_script", "_law_k"] (defScope s__law_hand) := ⟨rfl, rfl, rfl, by decide +kernel, rfl, by decide +kernel, by decide +kernel⟩
abbrev s__law_take : Stmt := topS 6
abbrev nm__law_take : List Str := ["_law_hand_here", "_law_many", "_law_digit"]
theorem sc__law_take : FnScope nm__law_take ["_law_hand_here", "_law_many"] (defScope s__law_take) := ⟨rfl, rfl, rfl, by decide +kernel, rfl, by decide +kernel, by decide +kernel⟩
abbrev s__law_part : Stmt := topS 7
abbrev nm__law_part : List Str := ["_law_one", "_law_other"]
theorem sc__law_part : FnScope nm__law_part ["_law_one", "_law_other"] (defScope s__law_part) := ⟨rfl, rfl, rfl, by decide +kernel, rfl, by decide +kernel, by decide +kernel⟩
abbrev s__law_numbers : Stmt := topS 8
abbrev nm__law_numbers : List Str := ["_law_hand_here", "_law_most", "_law_one", "_law_other", "_law_way"]
theorem sc__law_numbers : FnScope nm__law_numbers ["_law_hand_here"] (defScope s__law_numbers) := ⟨rfl, rfl, rfl, by decide +kernel, rfl, by decide +kernel, by decide +kernel⟩
abbrev s__law_right : Stmt := topS 9
abbrev nm__law_right : List Str := ["_law_told", "_law_one", "_law_m", "_law_other", "_law_n", "_law_part_here", "_law_some", "_law_x"]
theorem sc__law_right : FnScope nm__law_right ["_law_told", "_law_one", "_law_m", "_law_other", "_law_n"] (defScope s__law_right) := ⟨rfl, rfl, rfl, by decide +kernel, rfl, by decide +kernel, by decide +kernel⟩
abbrev s_law : Stmt := topS 10
abbrev nm_law : List Str := ["_law_script", "_law_k", "_law_hand_here", "_law_m", "_law_n", "_law_drawn", "_law_far", "_law_one", "_law_other", "_law_told"]
theorem sc_law : FnScope nm_law ["_law_script"] (defScope s_law) := ⟨rfl, rfl, rfl, by decide +kernel, rfl, by decide +kernel, by decide +kernel⟩
/-- what stands behind the top -/
structure Txt (K : PySem.W.Frag) (mg : Str → Option Value) : Prop where
  b_bool : mg "bool" = none
  b_int : mg "int" = none
  b_isinstance : mg "isinstance" = none
  b_len : mg "len" = none
  b_min : mg "min" = none
  b_range : mg "range" = none
  b_repr : mg "repr" = none
  f_greatest_part : ∃ f fd, Fun K "greatest_part" "greatest_part" s_greatest_part f fd ∧ mg "greatest_part" = some (.ref f) ∧ Binds K fd ["one", "other"] []
  f_turned_by : ∃ f fd, Fun K "turned_by" "turned_by" s_turned_by f fd ∧ mg "turned_by" = some (.ref f) ∧ Binds K fd ["one", "many"] []
  f_meeting : ∃ f fd, Fun K "meeting" "meeting" s_meeting f fd ∧ mg "meeting" = some (.ref f) ∧ Binds K fd ["one", "m", "other", "n"] []
  f__law_hand : ∃ f fd, Fun K "_law_hand" "_law_hand" s__law_hand f fd ∧ mg "_law_hand" = some (.ref f) ∧ Binds K fd ["_law_script", "_law_k"] []
  f__law_take : ∃ f fd, Fun K "_law_take" "_law_take" s__law_take f fd ∧ mg "_law_take" = some (.ref f) ∧ Binds K fd ["_law_hand_here", "_law_many"] []
  f__law_part : ∃ f fd, Fun K "_law_part" "_law_part" s__law_part f fd ∧ mg "_law_part" = some (.ref f) ∧ Binds K fd ["_law_one", "_law_other"] []
  f__law_numbers : ∃ f fd, Fun K "_law_numbers" "_law_numbers" s__law_numbers f fd ∧ mg "_law_numbers" = some (.ref f) ∧ Binds K fd ["_law_hand_here"] []
  f__law_right : ∃ f fd, Fun K "_law_right" "_law_right" s__law_right f fd ∧ mg "_law_right" = some (.ref f) ∧ Binds K fd ["_law_told", "_law_one", "_law_m", "_law_other", "_law_n"] []
  f_law : ∃ f fd, Fun K "law" "law" s_law f fd ∧ mg "law" = some (.ref f) ∧ Binds K fd ["_law_script"] []
local macro_rules | `(tactic| walk_at "sd") => `(tactic| first | assumption | decide +kernel | omega | exact mulOk_ite _ _ | (refine Or.inl ⟨?_, ?_⟩ <;> omega) | (refine Or.inr (Or.inl ⟨?_, ?_⟩) <;> omega) | (refine And.intro ?_ (Or.inl ?_) <;> omega))
local macro_rules | `(tactic| walk_at "cj") => `(tactic| repeat (refine And.intro ?_ ?_; walk_at "sd"))
local macro_rules | `(tactic| walk_at "rd") => `(tactic| try simp only [tSeq3, tNext3, tDrop3, tRet3, tRetN3, tIfS3, tSet3, tAsgT3, tPr3, tWhile3, tFor3, tLc3, tRng1, tRng2, tSeqI3, tYes3, wipe3, wipe3.clr, tPut3, tApp3, tPop3, tVar3, tC3, tOp3, tUn3, tNil3, tCons3, tCB3, tTest3, tChain3, tAnd3, tOr3, tNot3, tAndV3, tOrV3, tNotV3, tIf3, tTup3, tPure, tOwn, tLst3, pures, at3, set3, bind3, binds3, rAdd3, rSub3, rMul3, rMod3, rDiv3, rPow3, rLt3, rLe3, rGt3, rGe3, rEq3, rNe3, rIs3, rIsNot3, rInt, rInt0, isNon, rNeg3, rIntOf3, rInt2, rRepr3, rLen3, rIx3, seq3, lst3, own3, atI_lit, ixN_lit, atI_neg1, List.getElem?_cons_zero, List.getElem?_cons_succ, List.set_cons_zero, List.set_cons_succ, List.getLast?, List.dropLast, List.set_set, tIsi3, isTy, decide_eq_true_eq, Bool.not_eq_true', env0, List.map, List.length_cons, List.length_nil, List.replicate, List.cons_append, List.nil_append, Nat.sub_self, Nat.reduceAdd, Nat.reduceSub, eqv_int, shaped_int, shaped_none, eqv_ni, eqv_in, eqv_str_self, shaped_ofStr, and_self, true_and, beq_iff_eq, bne_iff_ne, if_true, if_false, Bool.false_eq_true, List.length_set, Nat.reduceLT, Int.reduceLT, Int.reduceLE, Int.reduceToNat, Int.reducePow, Int.reduceMul, Int.reduceMod, Int.reduceAdd, Int.reduceSub, Int.reduceNeg, sizeLine_eq, Nat.reduceLeDiff, String.reduceBEq, String.reduceEq, beq_self_eq_true, beq_eq_false_iff_ne, ne_eq, decide_eq_false_iff_not, not_true_eq_false, not_false_eq_true, Bool.true_eq_false, Bool.or_true, Bool.or_false, reduceIte, ite_true, ite_false, decide_true, decide_false, Bool.not_true, Bool.not_false, Bool.and_true, Bool.true_and, List.length_map])
theorem gcd_step {x y : Int} (hx : 0 ≤ x) (hy : 0 < y) : Int.gcd y (x % y) = Int.gcd x y := by
  obtain ⟨a, rfl⟩ := Int.eq_ofNat_of_zero_le hx
  obtain ⟨b, rfl⟩ := Int.eq_ofNat_of_zero_le (Int.le_of_lt hy)
  rw [show ((a : Int) % (b : Int)) = ((a % b : Nat) : Int) from rfl]
  show Nat.gcd b (a % b) = Nat.gcd a b
  rw [Nat.gcd_comm a b, Nat.gcd_rec b a, Nat.gcd_comm]
theorem gcd_pos {m n : Int} (hm : 0 < m) : 0 < (Int.gcd m n : Int) := by
  have := Int.gcd_pos_of_ne_zero_left n (show m ≠ 0 by omega)
  omega
theorem turn_end {one many p x : Int} (hm : 0 < many) (hd : many ∣ p * one - x) (hx : x = 1) : 0 ≤ p % many ∧ p % many < many ∧ (one * (p % many)) % many = 1 % many := by
  subst hx
  refine ⟨Int.emod_nonneg _ (by omega), Int.emod_lt_of_pos _ hm, ?_⟩
  rw [Int.mul_emod, Int.emod_emod, ← Int.mul_emod, Int.mul_comm]
  exact Int.emod_eq_emod_iff_emod_sub_eq_zero.mpr (Int.emod_eq_zero_of_dvd hd)
/-- what meeting is to tell -/
def Meets (one m other n x : Int) : Prop := 0 ≤ x ∧ x < m / (Int.gcd m n : Int) * n ∧ x % m = one ∧ x % n = other
theorem split_gcd {m n : Int} (hm : 0 < m) (hn : 0 < n) : ∃ m' n' : Int, 0 < m' ∧ 0 < n' ∧ m = m' * (Int.gcd m n : Int) ∧ n = n' * (Int.gcd m n : Int) ∧ Int.gcd m' n' = 1 ∧ m / (Int.gcd m n : Int) = m' ∧ n / (Int.gcd m n : Int) = n' := by
  have hg := gcd_pos (n := n) hm
  have h1 : ((Int.gcd m n : Nat) : Int) ∣ m := Int.gcd_dvd_left ..
  have h2 : ((Int.gcd m n : Nat) : Int) ∣ n := Int.gcd_dvd_right ..
  have e1 := (Int.ediv_mul_cancel h1).symm
  have e2 := (Int.ediv_mul_cancel h2).symm
  refine ⟨m / (Int.gcd m n : Int), n / (Int.gcd m n : Int), ?_, ?_, e1, e2, ?_, rfl, rfl⟩
  · exact Int.ediv_pos_of_pos_of_dvd hm (by omega) h1
  · exact Int.ediv_pos_of_pos_of_dvd hn (by omega) h2
  · have := Int.gcd_ediv_gcd_ediv_gcd (i := m) (j := n) (by omega)
    exact this
theorem meets_of {one m other n d t : Int} (hm : 0 < m) (hn : 0 < n) (h0 : 0 ≤ one) (h1 : one < m) (h2 : 0 ≤ other) (h3 : other < n) (hd : other - one = d * (Int.gcd m n : Int))
    (ht : (m / (Int.gcd m n : Int) * t) % (n / (Int.gcd m n : Int)) = 1 % (n / (Int.gcd m n : Int))) : Meets one m other n (one + (d * t) % (n / (Int.gcd m n : Int)) * m) := by
  obtain ⟨m', n', hm', hn', em, en, hg, e1, e2⟩ := split_gcd hm hn
  generalize hgg : (Int.gcd m n : Int) = g at *
  rw [e1, e2] at ht
  rw [e2]
  have b1 : 0 ≤ (d * t) % n' := Int.emod_nonneg _ (by omega)
  have b2 : (d * t) % n' < n' := Int.emod_lt_of_pos _ hn'
  unfold Meets
  rw [hgg, e1]
  refine ⟨?_, ?_, ?_, ?_⟩
  · have := Int.mul_nonneg b1 (Int.le_of_lt hm)
    omega
  · have c : (d * t) % n' * m ≤ (n' - 1) * m := Int.mul_le_mul_of_nonneg_right (by omega) (Int.le_of_lt hm)
    have c2 : (n' - 1) * m = n' * m - m := by rw [Int.sub_mul, Int.one_mul]
    have c3 : n' * m = m' * n := by
      rw [em, en]
      rw [Int.mul_left_comm]
    omega
  · rw [Int.add_mul_emod_self_right]
    exact Int.emod_eq_of_lt h0 h1
  · -- n divides often * m - (other - one)
    have k1 : n' ∣ (d * t) % n' - d * t := by
      have := Int.emod_add_mul_ediv (d * t) n'
      exact ⟨-(d * t / n'), by rw [Int.mul_neg]; omega⟩
    have k2 : n' ∣ m' * t - 1 := by
      have := Int.emod_eq_emod_iff_emod_sub_eq_zero.mp ht
      exact Int.dvd_of_emod_eq_zero this
    have k3 : n' ∣ (d * t) % n' * m' - d := by
      obtain ⟨a, ha⟩ := k1
      obtain ⟨b, hb⟩ := k2
      refine ⟨a * m' + d * b, ?_⟩
      have ea : (d * t) % n' = d * t + n' * a := by omega
      have eb : m' * t = 1 + n' * b := by omega
      rw [ea, Int.add_mul, Int.mul_assoc d t m', Int.mul_comm t m', eb, Int.mul_add d, Int.mul_one, Int.mul_add n', Int.mul_assoc n' a m', Int.mul_left_comm d n' b]
      omega
    have k4 : n ∣ (d * t) % n' * m - (other - one) := by
      obtain ⟨c, hc⟩ := k3
      refine ⟨c, ?_⟩
      rw [hd, em, en]
      have : (d * t) % n' * (m' * g) - d * g = ((d * t) % n' * m' - d) * g := by rw [Int.sub_mul, Int.mul_assoc]
      rw [this, hc, Int.mul_assoc, Int.mul_assoc, Int.mul_comm c g]
    have k5 : (one + (d * t) % n' * m) % n = other % n := by
      refine Int.emod_eq_emod_iff_emod_sub_eq_zero.mpr (Int.emod_eq_zero_of_dvd ?_)
      have : one + (d * t) % n' * m - other = (d * t) % n' * m - (other - one) := by omega
      rw [this]
      exact k4
    rw [k5]
    exact Int.emod_eq_of_lt h2 h3
theorem dvd_of_mul {a b c : Int} (h : a ∣ b * c) (hg : Int.gcd a b = 1) : a ∣ c := by
  have h1 : a ∣ (Int.gcd a (b * c) : Int) := Int.dvd_coe_gcd (Int.dvd_refl a) h
  rw [Int.gcd_mul_right_right_of_gcd_eq_one hg] at h1
  exact Int.dvd_trans h1 (Int.gcd_dvd_right ..)
theorem meets_uniq {one m other n x y : Int} (hm : 0 < m) (hn : 0 < n) (hx : Meets one m other n x) (hy : Meets one m other n y) : x = y := by
  obtain ⟨m', n', hm', hn', em, en, hg, e1, e2⟩ := split_gcd hm hn
  unfold Meets at hx hy
  rw [e1] at hx hy
  generalize hgg : (Int.gcd m n : Int) = g at *
  have hg0 : 0 < g := by rw [← hgg]; exact gcd_pos hm
  have d1 : m ∣ x - y := Int.dvd_of_emod_eq_zero (Int.emod_eq_emod_iff_emod_sub_eq_zero.mp (hx.2.2.1.trans hy.2.2.1.symm))
  have d2 : n ∣ x - y := Int.dvd_of_emod_eq_zero (Int.emod_eq_emod_iff_emod_sub_eq_zero.mp (hx.2.2.2.trans hy.2.2.2.symm))
  obtain ⟨k, hk⟩ := d1
  have d3 : n' ∣ m' * k := by
    obtain ⟨j, hj⟩ := d2
    refine ⟨j, ?_⟩
    have : (m' * k) * g = (n' * j) * g := by
      have a1 : m * k = n * j := by omega
      rw [em, en] at a1
      rw [Int.mul_right_comm m' k g, Int.mul_right_comm n' j g]
      exact a1
    exact Int.eq_of_mul_eq_mul_right (by omega) this
  have d4 : n' ∣ k := dvd_of_mul d3 (by rw [Int.gcd_comm]; exact hg)
  obtain ⟨j, hj⟩ := d4
  have e : x - y = m' * n * j := by
    rw [hk, hj, em, en, Int.mul_assoc, Int.mul_assoc, Int.mul_assoc, Int.mul_left_comm g n' j]
  have hpos : 0 < m' * n := Int.mul_pos hm' hn
  have hj0 : j = 0 := by
    by_cases h1 : 1 ≤ j
    · have := Int.mul_le_mul_of_nonneg_left h1 (Int.le_of_lt hpos)
      omega
    · by_cases h2 : j ≤ -1
      · have := Int.mul_le_mul_of_nonneg_left h2 (Int.le_of_lt hpos)
        omega
      · omega
  rw [hj0, Int.mul_zero] at e
  omega
theorem meets_swap {one m other n x : Int} (hm : 0 < m) (hn : 0 < n) (h : Meets other n one m x) : Meets one m other n x := by
  obtain ⟨m', n', hm', hn', em, en, hg, e1, e2⟩ := split_gcd hm hn
  unfold Meets at *
  rw [Int.gcd_comm n m] at h
  rw [e2] at h
  rw [e1]
  have : n' * m = m' * n := by
    generalize (Int.gcd m n : Int) = g at em en
    have h1 : n' * m = n' * (m' * g) := by rw [← em]
    have h2 : m' * n = m' * (n' * g) := by rw [← en]
    rw [h1, h2, Int.mul_left_comm]
  rw [this] at h
  exact ⟨h.1, h.2.1, h.2.2.2, h.2.2.1⟩
theorem rest_swap {a b g : Int} : (a - b) % g = 0 ↔ (b - a) % g = 0 := by
  constructor
  · intro h
    have := Int.dvd_of_emod_eq_zero h
    exact Int.emod_eq_zero_of_dvd (by rw [show b - a = -(a - b) by omega]; exact (Int.dvd_neg).mpr this)
  · intro h
    have := Int.dvd_of_emod_eq_zero h
    exact Int.emod_eq_zero_of_dvd (by rw [show a - b = -(b - a) by omega]; exact (Int.dvd_neg).mpr this)
theorem log_small {x : Int} (h0 : 0 ≤ x) (h1 : x < 18446744073709551616) : x.natAbs.log2 < 1920 := by
  have h := PySem.Flt.log2_lt_of (show 0 < 64 by decide) (show x.natAbs < 2 ^ 64 by omega)
  omega
theorem take_filter {α β : Type} {p : α → Bool} {f : α → β} {xs : List α} {i : Nat} {x : α} (h : xs[i]? = some x) : ((xs.take (i + 1)).filter p).map f = ((xs.take i).filter p).map f ++ (if p x = true then [f x] else []) := by
  rw [List.take_add_one, h]
  simp only [Option.toList_some, List.filter_append, List.map_append, List.filter_cons, List.filter_nil]
  split <;> simp
/-- the first of the numbers from 0 on with both rests -/
theorem first_of {one m other n x : Int} (hm : 0 < m) (hn : 0 < n) (hx : Meets one m other n x) (hle : m / (Int.gcd m n : Int) * n ≤ m * n) :
    ∃ r, (((rng 0 (m * n).toNat).filter fun d => match d with | .int y => decide (y % m = one) | _ => false).filter fun d => match d with | .int y => decide (y % n = other) | _ => false) = .int x :: r := by
  rw [List.filter_filter]
  have h0 := hx.1
  have h1 := hx.2.1
  obtain ⟨k, rfl⟩ := Int.eq_ofNat_of_zero_le h0
  have hk : k < (m * n).toNat := by omega
  obtain ⟨j, hj⟩ : ∃ j, (m * n).toNat = k + 1 + j := ⟨(m * n).toNat - (k + 1), by omega⟩
  have e : rng 0 (m * n).toNat = rng 0 k ++ (.int (k : Int) :: (List.range j).map fun i => PyData.int ((k + 1 + i : Nat) : Int)) := by
    unfold rng
    rw [hj, List.range_add, List.range_add, List.map_append, List.map_append]
    simp [List.range_succ, Function.comp_def]
  rw [e, List.filter_append]
  have e1 : (rng 0 k).filter (fun a => (match a with | .int y => decide (y % n = other) | _ => false) && (match a with | .int y => decide (y % m = one) | _ => false)) = [] := by
    rw [List.filter_eq_nil_iff]
    intro a ha
    obtain ⟨i, hi⟩ := List.getElem?_of_mem ha
    obtain ⟨h2, rfl⟩ := rng_get hi
    simp only [Bool.and_eq_true, decide_eq_true_eq]
    rintro ⟨h3, h4⟩
    have := meets_uniq hm hn hx (y := (0 + (i : Nat) : Int)) ⟨by omega, by omega, h4, h3⟩
    omega
  rw [e1, List.nil_append, List.filter_cons]
  rw [if_pos (by simp only [Bool.and_eq_true, decide_eq_true_eq]; exact ⟨hx.2.2.2, hx.2.2.1⟩)]
  exact ⟨_, rfl⟩
theorem rng_ints {lo : Int} {n : Nat} {p : PyData → Bool} {i : Nat} {x : PyData} (h : ((rng lo n).filter p)[i]? = some x) : ∃ y, x = .int y := by
  have := List.mem_of_getElem? h
  have := (List.mem_filter.mp this).1
  obtain ⟨j, hj⟩ := List.getElem?_of_mem this
  exact ⟨_, (rng_get hj).2⟩
section
variable {P : Program} {w : World} {K : PySem.W.Frag} {mg : Str → Option Value} {base : Heap}
def sp_greatest_part : Sp3 := fun ds S Q => ∃ a b : Int, ds = [.p (.int a), .p (.int b)] ∧ 0 ≤ a ∧ 0 ≤ b ∧ Q (.p (.int (Int.gcd a b))) S
def t_greatest_part : TS3 := tSeq3 (tWhile3 (tTest3 (tOp3 rGt3 (tVar3 1) (tC3 (.int 0)))) (tPr3 0 1 (tCons3 (tVar3 1) (tCons3 (tOp3 rMod3 (tVar3 0) (tVar3 1)) (tNil3))))) (tRet3 (tVar3 0))
theorem dv_greatest_part (T : Txt K mg) {f : Addr} {cdv : Value} {A : Around} {outer : List Env} {s : Shared} {H : Hp} {E : XK} (hr : Room 0 (A.deeper (envOfC "greatest_part" (defScope s_greatest_part) s.heap.objs.size f cdv))) : QSs (cxOf CX0 P w K mg base nm_greatest_part "greatest_part" (defScope s_greatest_part) f cdv A outer s H E).nox (defBody s_greatest_part) t_greatest_part :=
  qss_cons (qs_while PassesOwn.never (qt_cmp oq_gt (qv 1) (qe_int)) (qss_one (qs_par (i := 0) (j := 1) rfl sc_greatest_part.nd rfl rfl (by decide) rfl rfl (qa_cons (qv 1) (qa_cons (qe_op oq_mod (qv 0) (qv 1)) (qa_nil))) (by rfl)))) (qss_one (qs_ret (qv 0)))
theorem rd_greatest_part : ∀ ds S Q, sp_greatest_part ds S Q → t_greatest_part { nx := fun _ S' => Fin3 S Q (.p .none) S', rt := Fin3 S Q } (env0 2 ds) S := by
  rintro _ S Q ⟨a, b, rfl, ha, hb, q⟩
  unfold t_greatest_part
  walk_at "rd"
  refine ⟨fun m e s => ∃ x y : Int, e = [some (.p (.int x)), some (.p (.int y))] ∧ s = S ∧ 0 ≤ x ∧ 0 ≤ y ∧ Int.gcd x y = Int.gcd a b ∧ m = y.toNat, ⟨_, a, b, rfl, rfl, ha, hb, rfl, rfl⟩, ?_⟩
  rintro m _ _ ⟨x, y, rfl, rfl, hx, hy, hg, rfl⟩
  walk_at "rd"
  by_cases h : 0 < y
  · rw [if_pos h]
    refine ⟨h, wk_self ⟨_, ?_, y, x % y, rfl, rfl, hy, Int.emod_nonneg _ (by omega), (gcd_step hx h).trans hg, rfl⟩⟩
    have := Int.emod_lt_of_pos x h
    have := Int.emod_nonneg x (show y ≠ 0 by omega)
    omega
  · rw [if_neg h]
    have hy0 : y = 0 := by omega
    subst hy0
    rw [Int.gcd_zero_right] at hg
    refine fin_p ?_
    rw [← hg] at q
    have : ((x.natAbs : Nat) : Int) = x := by omega
    rw [this] at q
    exact q
theorem ok_greatest_part (T : Txt K mg) : Ok3 P w K mg base 1 "greatest_part" sp_greatest_part := by
  obtain ⟨f, fd, F, hm, hb⟩ := T.f_greatest_part
  exact Ok3.mk' F hm hb sc_greatest_part (fun ds S Q h => by simp only [sp_greatest_part] at h; first | (obtain ⟨rfl, _⟩ := h; rfl) | (obtain ⟨_, rfl, _⟩ := h; rfl) | (obtain ⟨_, _, rfl, _⟩ := h; rfl) | (obtain ⟨_, _, _, rfl, _⟩ := h; rfl) | (obtain ⟨_, _, _, _, rfl, _⟩ := h; rfl) | (obtain ⟨_, _, _, _, _, rfl, _⟩ := h; rfl) | (obtain ⟨_, _, _, _, _, _, rfl, _⟩ := h; rfl) | exact h.2) (fun cdv A outer s H E hr => dv_greatest_part T hr) rd_greatest_part
def sp_turned_by : Sp3 := fun ds S Q => ∃ one many : Int, ds = [.p (.int one), .p (.int many)] ∧ 0 ≤ one ∧ 0 < many ∧ many ≤ 1000000 ∧ Int.gcd one many = 1 ∧ ∀ t, 0 ≤ t → t < many → (one * t) % many = 1 % many → Q (.p (.int t)) S
def t_turned_by : TS3 := tSeq3 (tPr3 2 3 (tCons3 (tVar3 1) (tCons3 (tOp3 rMod3 (tVar3 0) (tVar3 1)) (tNil3)))) (tSeq3 (tAsgT3 (tTup3 (tCons3 (tC3 (.int 0)) (tCons3 (tC3 (.int 1)) (tNil3)))) (.tup (.cons (.nm 4) (.cons (.nm 5) (.nil))))) (tSeq3 (tWhile3 (tTest3 (tOp3 rGt3 (tVar3 3) (tC3 (.int 0)))) (tSeq3 (tSet3 6 (tOp3 rDiv3 (tVar3 2) (tVar3 3))) (tSeq3 (tPr3 2 3 (tCons3 (tVar3 3) (tCons3 (tOp3 rSub3 (tVar3 2) (tOp3 rMul3 (tVar3 6) (tVar3 3))) (tNil3)))) (tPr3 4 5 (tCons3 (tVar3 5) (tCons3 (tOp3 rSub3 (tVar3 4) (tOp3 rMul3 (tVar3 6) (tVar3 5))) (tNil3))))))) (tRet3 (tOp3 rMod3 (tVar3 4) (tVar3 1)))))
theorem dv_turned_by (T : Txt K mg) {f : Addr} {cdv : Value} {A : Around} {outer : List Env} {s : Shared} {H : Hp} {E : XK} (hr : Room 0 (A.deeper (envOfC "turned_by" (defScope s_turned_by) s.heap.objs.size f cdv))) : QSs (cxOf CX0 P w K mg base nm_turned_by "turned_by" (defScope s_turned_by) f cdv A outer s H E).nox (defBody s_turned_by) t_turned_by :=
  qss_cons (qs_par (i := 2) (j := 3) rfl sc_turned_by.nd rfl rfl (by decide) rfl rfl (qa_cons (qv 1) (qa_cons (qe_op oq_mod (qv 0) (qv 1)) (qa_nil))) (by rfl)) (qss_cons (qs_asgT (qe_tup (qa_cons (qe_int) (qa_cons (qe_int) (qa_nil)))) (qb_tup rfl (qbs_cons (qb_nm (i := 4) sc_turned_by.nd rfl (by first | exact .inl rfl | exact .inr rfl)) (qbs_cons (qb_nm (i := 5) sc_turned_by.nd rfl (by first | exact .inl rfl | exact .inr rfl)) (qbs_nil))))) (qss_cons (qs_while PassesOwn.never (qt_cmp oq_gt (qv 3) (qe_int)) (qss_cons (qs_set (i := 6) sc_turned_by.nd rfl (by first | exact .inl rfl | exact .inr rfl) (qe_op oq_div (qv 2) (qv 3))) (qss_cons (qs_par (i := 2) (j := 3) rfl sc_turned_by.nd rfl rfl (by decide) rfl rfl (qa_cons (qv 3) (qa_cons (qe_op oq_sub (qv 2) (qe_op oq_mul (qv 6) (qv 3))) (qa_nil))) (by rfl)) (qss_one (qs_par (i := 4) (j := 5) rfl sc_turned_by.nd rfl rfl (by decide) rfl rfl (qa_cons (qv 5) (qa_cons (qe_op oq_sub (qv 4) (qe_op oq_mul (qv 6) (qv 5))) (qa_nil))) (by rfl)))))) (qss_one (qs_ret (qe_op oq_mod (qv 4) (qv 1))))))
theorem rd_turned_by : ∀ ds S Q, sp_turned_by ds S Q → t_turned_by { nx := fun _ S' => Fin3 S Q (.p .none) S', rt := Fin3 S Q } (env0 7 ds) S := by
  rintro _ S Q ⟨one, many, rfl, h1, h2, h3, hg, q⟩
  unfold t_turned_by
  walk_at "rd"
  walk_at "cj"
  refine ⟨fun m e s => ∃ x y b t : Int, ∃ z, e = [some (.p (.int one)), some (.p (.int many)), some (.p (.int x)), some (.p (.int y)), some (.p (.int b)), some (.p (.int t)), z] ∧ s = S ∧ 0 < x ∧ 0 ≤ y ∧ (x ≤ many ∧ y ≤ many) ∧ Int.gcd x y = 1 ∧ many ∣ b * one - x ∧ many ∣ t * one - y ∧ m = y.toNat,
    ⟨_, many, one % many, 0, 1, none, rfl, rfl, h2, Int.emod_nonneg _ (by omega), ⟨Int.le_refl _, Int.le_of_lt (Int.emod_lt_of_pos _ h2)⟩, ?_, ⟨-1, by omega⟩, ?_, rfl⟩, ?_⟩
  · rw [gcd_step h1 h2]
    exact hg
  · exact ⟨one / many, by have := Int.emod_add_mul_ediv one many; omega⟩
  rintro m _ _ ⟨x, y, b, t, z, rfl, rfl, hx, hy, ⟨hxm, hym⟩, hgg, d1, d2, rfl⟩
  walk_at "rd"
  by_cases h : 0 < y
  · rw [if_pos h]
    have q0 : 0 ≤ x / y := Int.ediv_nonneg (by omega) hy
    have q1 : x / y ≤ x := Int.ediv_le_self _ (by omega)
    have em : x - x / y * y = x % y := by
      have := Int.emod_add_mul_ediv x y
      rw [Int.mul_comm y] at this
      omega
    refine ⟨⟨h, .inl (by omega)⟩, .inl ⟨by omega, by omega⟩, .inl ⟨by omega, by omega⟩, wk_self ⟨_, ?_, y, x - x / y * y, t, b - x / y * t, _, rfl, rfl, h, ?_, ?_, ?_, d2, ?_, rfl⟩⟩
    · rw [em]
      have := Int.emod_lt_of_pos x h
      have := Int.emod_nonneg x (show y ≠ 0 by omega)
      omega
    · rw [em]
      exact Int.emod_nonneg x (by omega)
    · rw [em]
      have := Int.emod_lt_of_pos x h
      exact ⟨hym, by omega⟩
    · rw [em, gcd_step (by omega) h]
      exact hgg
    · have e2 : (b - x / y * t) * one - (x - x / y * y) = (b * one - x) - x / y * (t * one - y) := by
        rw [Int.sub_mul, Int.mul_sub, Int.mul_assoc]
        omega
      rw [e2]
      exact Int.dvd_sub d1 (Int.dvd_mul_of_dvd_right d2)
  · rw [if_neg h]
    have hy0 : y = 0 := by omega
    subst hy0
    rw [Int.gcd_zero_right] at hgg
    obtain ⟨a1, a2, a3⟩ := turn_end h2 d1 (by omega)
    exact ⟨h2, fin_p (q _ a1 a2 a3)⟩
theorem ok_turned_by (T : Txt K mg) : Ok3 P w K mg base 1 "turned_by" sp_turned_by := by
  obtain ⟨f, fd, F, hm, hb⟩ := T.f_turned_by
  exact Ok3.mk' F hm hb sc_turned_by (fun ds S Q h => by simp only [sp_turned_by] at h; first | (obtain ⟨rfl, _⟩ := h; rfl) | (obtain ⟨_, rfl, _⟩ := h; rfl) | (obtain ⟨_, _, rfl, _⟩ := h; rfl) | (obtain ⟨_, _, _, rfl, _⟩ := h; rfl) | (obtain ⟨_, _, _, _, rfl, _⟩ := h; rfl) | (obtain ⟨_, _, _, _, _, rfl, _⟩ := h; rfl) | (obtain ⟨_, _, _, _, _, _, rfl, _⟩ := h; rfl) | exact h.2) (fun cdv A outer s H E hr => dv_turned_by T hr) rd_turned_by
def sp_meeting : Sp3 := fun ds S Q => ∃ one m other n : Int, ds = [.p (.int one), .p (.int m), .p (.int other), .p (.int n)] ∧ 0 < m ∧ m ≤ 1000000 ∧ 0 < n ∧ n ≤ 1000000 ∧ 0 ≤ one ∧ one < m ∧ 0 ≤ other ∧ other < n ∧
  ((other - one) % (Int.gcd m n : Int) ≠ 0 → Q (.p .none) S) ∧ ((other - one) % (Int.gcd m n : Int) = 0 → ∀ x, Meets one m other n x → Q (.p (.int x)) S)
def t_meeting : TS3 := tSeq3 (tSet3 4 (tCB3 sp_greatest_part (tCons3 (tVar3 1) (tCons3 (tVar3 3) (tNil3))))) (tSeq3 (tIfS3 (tTest3 (tOp3 rNe3 (tOp3 rMod3 (tOp3 rSub3 (tVar3 2) (tVar3 0)) (tVar3 4)) (tC3 (.int 0)))) (tRet3 (tC3 .none)) (tNext3)) (tSeq3 (tSet3 5 (tOp3 rMod3 (tOp3 rMul3 (tOp3 rDiv3 (tOp3 rSub3 (tVar3 2) (tVar3 0)) (tVar3 4)) (tCB3 sp_turned_by (tCons3 (tOp3 rDiv3 (tVar3 1) (tVar3 4)) (tCons3 (tOp3 rDiv3 (tVar3 3) (tVar3 4)) (tNil3))))) (tOp3 rDiv3 (tVar3 3) (tVar3 4)))) (tRet3 (tOp3 rAdd3 (tVar3 0) (tOp3 rMul3 (tVar3 5) (tVar3 1))))))
theorem dv_meeting (T : Txt K mg) {f : Addr} {cdv : Value} {A : Around} {outer : List Env} {s : Shared} {H : Hp} {E : XK} (hr : Room 1 (A.deeper (envOfC "meeting" (defScope s_meeting) s.heap.objs.size f cdv))) : QSs (cxOf CX0 P w K mg base nm_meeting "meeting" (defScope s_meeting) f cdv A outer s H E).nox (defBody s_meeting) t_meeting :=
  qss_cons (qs_set (i := 4) sc_meeting.nd rfl (by first | exact .inl rfl | exact .inr rfl) (qe_call (ok_greatest_part T) (hr.mono (by decide)) (by rfl) (qa_cons (qv 1) (qa_cons (qv 3) (qa_nil))))) (qss_cons (qs_if (qt_cmp (oq_ne hr.units) (qe_op oq_mod (qe_op oq_sub (qv 2) (qv 0)) (qv 4)) (qe_int)) (qss_one (qs_ret (qe_non))) (qss_nil)) (qss_cons (qs_set (i := 5) sc_meeting.nd rfl (by first | exact .inl rfl | exact .inr rfl) (qe_op oq_mod (qe_op oq_mul (qe_op oq_div (qe_op oq_sub (qv 2) (qv 0)) (qv 4)) (qe_call (ok_turned_by T) (hr.mono (by decide)) (by rfl) (qa_cons (qe_op oq_div (qv 1) (qv 4)) (qa_cons (qe_op oq_div (qv 3) (qv 4)) (qa_nil))))) (qe_op oq_div (qv 3) (qv 4)))) (qss_one (qs_ret (qe_op oq_add (qv 0) (qe_op oq_mul (qv 5) (qv 1)))))))
theorem rd_meeting : ∀ ds S Q, sp_meeting ds S Q → t_meeting { nx := fun _ S' => Fin3 S Q (.p .none) S', rt := Fin3 S Q } (env0 6 ds) S := by
  rintro _ S Q ⟨one, m, other, n, rfl, hm, hm1, hn, hn1, h0, h1, h2, h3, qn, qx⟩
  unfold t_meeting
  walk_at "rd"
  have hg := gcd_pos (n := n) hm
  obtain ⟨m', n', hm', hn', em, en, hgg, e1, e2⟩ := split_gcd hm hn
  refine ⟨m, n, rfl, by omega, by omega, hg, ?_⟩
  by_cases h : (other - one) % (Int.gcd m n : Int) = 0
  · rw [if_neg (by simp [h])]
    have hgm : (Int.gcd m n : Int) ≤ m := Int.le_of_dvd hm (Int.gcd_dvd_left ..)
    have em1 : m' ≤ m := by rw [← e1]; exact Int.ediv_le_self _ (by omega)
    have en1 : n' ≤ n := by rw [← e2]; exact Int.ediv_le_self _ (by omega)
    have hdv : other - one = (other - one) / (Int.gcd m n : Int) * (Int.gcd m n : Int) := (Int.ediv_mul_cancel (Int.dvd_of_emod_eq_zero h)).symm
    have b1 : (other - one) / (Int.gcd m n : Int) ≤ 1000000 := by
      refine Int.ediv_le_of_le_mul hg ?_
      have : (1000000 : Int) * 1 ≤ 1000000 * (Int.gcd m n : Int) := Int.mul_le_mul_of_nonneg_left (by omega) (by decide)
      omega
    have b2 : -1000000 ≤ (other - one) / (Int.gcd m n : Int) := by
      refine (Int.le_ediv_iff_mul_le hg).mpr ?_
      have : (-1000000 : Int) * (Int.gcd m n : Int) ≤ -1000000 * 1 := Int.mul_le_mul_of_nonpos_left (by decide) (by omega)
      omega
    refine ⟨⟨hg, .inl (by omega)⟩, ⟨hg, .inl (by omega)⟩, ⟨hg, .inl (by omega)⟩, ?_⟩
    refine ⟨m', n', by rw [e1, e2], by omega, hn', by omega, hgg, fun t t0 t1 t2 => ?_⟩
    refine ⟨.inl ⟨by omega, by omega⟩, ⟨hg, .inl (by omega)⟩, by rw [e2]; exact hn', ?_⟩
    have ho : 0 ≤ ((other - one) / (Int.gcd m n : Int) * t) % n' := Int.emod_nonneg _ (by omega)
    have ho1 : ((other - one) / (Int.gcd m n : Int) * t) % n' < n' := Int.emod_lt_of_pos _ hn'
    refine ⟨.inl (by rw [e2]; exact ⟨by omega, by omega⟩), fin_p (qx h _ (meets_of hm hn h0 h1 h2 h3 hdv (by rw [e1, e2]; exact t2)))⟩
  · rw [if_pos (by simp [h])]
    exact fin_p (qn h)
theorem ok_meeting (T : Txt K mg) : Ok3 P w K mg base 2 "meeting" sp_meeting := by
  obtain ⟨f, fd, F, hm, hb⟩ := T.f_meeting
  exact Ok3.mk' F hm hb sc_meeting (fun ds S Q h => by simp only [sp_meeting] at h; first | (obtain ⟨rfl, _⟩ := h; rfl) | (obtain ⟨_, rfl, _⟩ := h; rfl) | (obtain ⟨_, _, rfl, _⟩ := h; rfl) | (obtain ⟨_, _, _, rfl, _⟩ := h; rfl) | (obtain ⟨_, _, _, _, rfl, _⟩ := h; rfl) | (obtain ⟨_, _, _, _, _, rfl, _⟩ := h; rfl) | (obtain ⟨_, _, _, _, _, _, rfl, _⟩ := h; rfl) | exact h.2) (fun cdv A outer s H E hr => dv_meeting T hr) rd_meeting
def sp__law_hand : Sp3 := fun ds S Q => ∃ (ns : List Int) (k : Int), ds = [.p (.list (ns.map PyData.int)), .p (.int k)] ∧ ns.length ≤ 63 ∧ 0 ≤ k ∧ k ≤ 1000 ∧ ∀ g x c : Int, Q (.loc S.length) (S ++ [some (.lst [.int g, .int x, .int c])])
def t__law_hand : TS3 := tSeq3 (tSet3 2 (tIf3 (tTest3 (tOp3 rLt3 (tVar3 1) (tCB3 (rLen3) (tCons3 (tVar3 0) (tNil3))))) (tOp3 rIx3 (tVar3 0) (tVar3 1)) (tC3 (.int 0)))) (tSeq3 (tSet3 3 (tOp3 rMul3 (tOp3 rMod3 (tVar3 2) (tOp3 rMul3 (tOp3 rPow3 (tC3 (.int 10)) (tC3 (.int 60))) (tOp3 rPow3 (tC3 (.int 10)) (tC3 (.int 60))))) (tCB3 (rIntOf3) (tCons3 (tOp3 rGe3 (tVar3 2) (tOp3 rPow3 (tC3 (.int 10)) (tC3 (.int 18)))) (tNil3))))) (tRet3 (tOwn (tLst3 (tCons3 (tVar3 3) (tCons3 (tOp3 rMod3 (tOp3 rMul3 (tOp3 rAdd3 (tOp3 rAdd3 (tOp3 rMod3 (tVar3 2) (tC3 (.int 2147483629))) (tOp3 rMul3 (tOp3 rMul3 (tC3 (.int 7919)) (tVar3 1)) (tVar3 1))) (tC3 (.int 11))) (tC3 (.int 48271))) (tC3 (.int 2147483647))) (tCons3 (tC3 (.int 0)) (tNil3))))))))
theorem dv__law_hand (T : Txt K mg) {f : Addr} {cdv : Value} {A : Around} {outer : List Env} {s : Shared} {H : Hp} {E : XK} (hr : Room 0 (A.deeper (envOfC "_law_hand" (defScope s__law_hand) s.heap.objs.size f cdv))) : QSs (cxOf CX0 P w K mg base nm__law_hand "_law_hand" (defScope s__law_hand) f cdv A outer s H E).nox (defBody s__law_hand) t__law_hand :=
  qss_cons (qs_set (i := 2) sc__law_hand.nd rfl (by first | exact .inl rfl | exact .inr rfl) (qe_if (qt_cmp oq_lt (qv 1) (qe_cb cq_len (by rfl) T.b_len (by decide +kernel) (qa_cons (qv 0) (qa_nil)))) (qe_ix iq_seq (qv 0) (qv 1)) (qe_int))) (qss_cons (qs_set (i := 3) sc__law_hand.nd rfl (by first | exact .inl rfl | exact .inr rfl) (qe_op oq_mul (qe_op oq_mod (qv 2) (qe_op oq_mul (qe_op oq_pow (qe_int) (qe_int)) (qe_op oq_pow (qe_int) (qe_int)))) (qe_ty cq_int (by rfl) T.b_int (by decide +kernel) (qa_cons (qe_cmp oq_ge (qv 2) (qe_op oq_pow (qe_int) (qe_int))) (qa_nil))))) (qss_one (qs_ret (qn_own (qn_lst (qa_cons (qv 3) (qa_cons (qe_op oq_mod (qe_op oq_mul (qe_op oq_add (qe_op oq_add (qe_op oq_mod (qv 2) (qe_int)) (qe_op oq_mul (qe_op oq_mul (qe_int) (qv 1)) (qv 1))) (qe_int)) (qe_int)) (qe_int)) (qa_cons (qe_int) (qa_nil)))))))))
theorem rd__law_hand : ∀ ds S Q, sp__law_hand ds S Q → t__law_hand { nx := fun _ S' => Fin3 S Q (.p .none) S', rt := Fin3 S Q } (env0 4 ds) S := by
  rintro _ S Q ⟨ns, k, rfl, hl, h0, h1, q⟩
  unfold t__law_hand
  walk_at "rd"
  have kk : 0 ≤ 7919 * k * k ∧ 7919 * k * k ≤ 7919 * 1000 * 1000 := by
    have a1 : 0 ≤ k * k := Int.mul_nonneg h0 h0
    have a2 : k * k ≤ 1000 * 1000 := Int.mul_le_mul h1 h1 h0 (by decide)
    rw [Int.mul_assoc]
    omega
  by_cases h : k < (ns.length : Int)
  · rw [if_pos h]
    obtain ⟨n, rfl⟩ := Int.eq_ofNat_of_zero_le h0
    have hn : n < ns.length := by omega
    simp only [show atI (ns.map PyData.int) (n : Int) = some (.int ns[n]) from atI_nat (by rw [List.getElem?_map, List.getElem?_eq_getElem hn]; rfl)]
    generalize ns[n] = c
    walk_at "cj"
    exact fin_new (q _ _ _)
  · rw [if_neg h]
    walk_at "cj"
    exact fin_new (q _ _ _)
theorem ok__law_hand (T : Txt K mg) : Ok3 P w K mg base 1 "_law_hand" sp__law_hand := by
  obtain ⟨f, fd, F, hm, hb⟩ := T.f__law_hand
  exact Ok3.mk' F hm hb sc__law_hand (fun ds S Q h => by simp only [sp__law_hand] at h; first | (obtain ⟨rfl, _⟩ := h; rfl) | (obtain ⟨_, rfl, _⟩ := h; rfl) | (obtain ⟨_, _, rfl, _⟩ := h; rfl) | (obtain ⟨_, _, _, rfl, _⟩ := h; rfl) | (obtain ⟨_, _, _, _, rfl, _⟩ := h; rfl) | (obtain ⟨_, _, _, _, _, rfl, _⟩ := h; rfl) | (obtain ⟨_, _, _, _, _, _, rfl, _⟩ := h; rfl) | exact h.2) (fun cdv A outer s H E hr => dv__law_hand T hr) rd__law_hand
def sp__law_take : Sp3 := fun ds S Q => ∃ (n : Nat) (m : Int), ds = [.loc n, .p (.int m)] ∧ 0 < m ∧ m ≤ 1000000000000 ∧ Hd S n ∧ ∀ d S', 0 ≤ d → d < m → HdTo n S S' → Q (.p (.int d)) S'
def t__law_take : TS3 := tSeq3 (tIfS3 (tTest3 (tOp3 rGt3 (tOp3 rIx3 (tVar3 0) (tC3 (.int 0))) (tC3 (.int 0)))) (tSeq3 (tSet3 2 (tOp3 rMod3 (tOp3 rIx3 (tVar3 0) (tC3 (.int 0))) (tVar3 1))) (tSeq3 (tPut3 (tOp3 rDiv3 (tOp3 rIx3 (tVar3 0) (tC3 (.int 0))) (tVar3 1)) (tVar3 0) (tC3 (.int 0))) (tRet3 (tVar3 2)))) (tNext3)) (tSeq3 (tPut3 (tOp3 rAdd3 (tOp3 rIx3 (tVar3 0) (tC3 (.int 2))) (tC3 (.int 1))) (tVar3 0) (tC3 (.int 2))) (tSeq3 (tPut3 (tOp3 rMod3 (tOp3 rAdd3 (tOp3 rAdd3 (tOp3 rMul3 (tOp3 rIx3 (tVar3 0) (tC3 (.int 1))) (tC3 (.int 39373))) (tOp3 rMul3 (tC3 (.int 65537)) (tOp3 rIx3 (tVar3 0) (tC3 (.int 2))))) (tC3 (.int 12345))) (tC3 (.int 2147483647))) (tVar3 0) (tC3 (.int 1))) (tRet3 (tOp3 rMod3 (tOp3 rDiv3 (tOp3 rMod3 (tOp3 rMul3 (tOp3 rIx3 (tVar3 0) (tC3 (.int 1))) (tOp3 rAdd3 (tOp3 rMod3 (tOp3 rIx3 (tVar3 0) (tC3 (.int 1))) (tC3 (.int 65521))) (tC3 (.int 1)))) (tC3 (.int 2147483629))) (tC3 (.int 64))) (tVar3 1)))))
theorem dv__law_take (T : Txt K mg) {f : Addr} {cdv : Value} {A : Around} {outer : List Env} {s : Shared} {H : Hp} {E : XK} (hr : Room 0 (A.deeper (envOfC "_law_take" (defScope s__law_take) s.heap.objs.size f cdv))) : QSs (cxOf CX0 P w K mg base nm__law_take "_law_take" (defScope s__law_take) f cdv A outer s H E).nox (defBody s__law_take) t__law_take :=
  qss_cons (qs_if (qt_cmp oq_gt (qe_ix iq_seq (qv 0) (qe_int)) (qe_int)) (qss_cons (qs_set (i := 2) sc__law_take.nd rfl (by first | exact .inl rfl | exact .inr rfl) (qe_op oq_mod (qe_ix iq_seq (qv 0) (qe_int)) (qv 1))) (qss_cons (qs_put (qe_op oq_div (qe_ix iq_seq (qv 0) (qe_int)) (qv 1)) (qv 0) (qe_int)) (qss_one (qs_ret (qv 2))))) (qss_nil)) (qss_cons (qs_put (qe_op oq_add (qe_ix iq_seq (qv 0) (qe_int)) (qe_int)) (qv 0) (qe_int)) (qss_cons (qs_put (qe_op oq_mod (qe_op oq_add (qe_op oq_add (qe_op oq_mul (qe_ix iq_seq (qv 0) (qe_int)) (qe_int)) (qe_op oq_mul (qe_int) (qe_ix iq_seq (qv 0) (qe_int)))) (qe_int)) (qe_int)) (qv 0) (qe_int)) (qss_one (qs_ret (qe_op oq_mod (qe_op oq_div (qe_op oq_mod (qe_op oq_mul (qe_ix iq_seq (qv 0) (qe_int)) (qe_op oq_add (qe_op oq_mod (qe_ix iq_seq (qv 0) (qe_int)) (qe_int)) (qe_int))) (qe_int)) (qe_int)) (qv 1))))))
theorem rd__law_take : ∀ ds S Q, sp__law_take ds S Q → t__law_take { nx := fun _ S' => Fin3 S Q (.p .none) S', rt := Fin3 S Q } (env0 3 ds) S := by
  rintro _ S Q ⟨n, m, rfl, h0, h1, hd, q⟩
  have hlt := hd.lt
  obtain ⟨g, x, c, hs⟩ := hd
  unfold t__law_take
  walk_at "rd"
  simp only [hs, List.getElem?_set_self hlt]
  walk_at "rd"
  simp only [hs, List.getElem?_set_self hlt]
  walk_at "rd"
  by_cases hg : 0 < g
  · rw [if_pos hg]
    refine ⟨h0, ⟨h0, .inl (by omega)⟩, fin_hd ⟨_, _, _, rfl⟩ (q _ _ (Int.emod_nonneg _ (by omega)) (Int.emod_lt_of_pos _ h0) ⟨_, _, _, rfl⟩)⟩
  · rw [if_neg hg]
    have := Int.emod_nonneg ((x * 39373 + 65537 * (c + 1) + 12345) % 2147483647) (show (65521 : Int) ≠ 0 by decide)
    have := Int.emod_lt_of_pos ((x * 39373 + 65537 * (c + 1) + 12345) % 2147483647) (show (0 : Int) < 65521 by decide)
    walk_at "cj"
    exact fin_hd ⟨_, _, _, rfl⟩ (q _ _ (Int.emod_nonneg _ (by omega)) (Int.emod_lt_of_pos _ h0) ⟨_, _, _, rfl⟩)
theorem ok__law_take (T : Txt K mg) : Ok3 P w K mg base 1 "_law_take" sp__law_take := by
  obtain ⟨f, fd, F, hm, hb⟩ := T.f__law_take
  exact Ok3.mk' F hm hb sc__law_take (fun ds S Q h => by simp only [sp__law_take] at h; first | (obtain ⟨rfl, _⟩ := h; rfl) | (obtain ⟨_, rfl, _⟩ := h; rfl) | (obtain ⟨_, _, rfl, _⟩ := h; rfl) | (obtain ⟨_, _, _, rfl, _⟩ := h; rfl) | (obtain ⟨_, _, _, _, rfl, _⟩ := h; rfl) | (obtain ⟨_, _, _, _, _, rfl, _⟩ := h; rfl) | (obtain ⟨_, _, _, _, _, _, rfl, _⟩ := h; rfl) | exact h.2) (fun cdv A outer s H E hr => dv__law_take T hr) rd__law_take
def sp__law_part : Sp3 := fun ds S Q => ∃ a b : Int, ds = [.p (.int a), .p (.int b)] ∧ 0 ≤ a ∧ 0 ≤ b ∧ Q (.p (.int (Int.gcd a b))) S
def t__law_part : TS3 := tSeq3 (tWhile3 (tTest3 (tOp3 rGt3 (tVar3 1) (tC3 (.int 0)))) (tPr3 0 1 (tCons3 (tVar3 1) (tCons3 (tOp3 rMod3 (tVar3 0) (tVar3 1)) (tNil3))))) (tRet3 (tVar3 0))
theorem dv__law_part (T : Txt K mg) {f : Addr} {cdv : Value} {A : Around} {outer : List Env} {s : Shared} {H : Hp} {E : XK} (hr : Room 0 (A.deeper (envOfC "_law_part" (defScope s__law_part) s.heap.objs.size f cdv))) : QSs (cxOf CX0 P w K mg base nm__law_part "_law_part" (defScope s__law_part) f cdv A outer s H E).nox (defBody s__law_part) t__law_part :=
  qss_cons (qs_while PassesOwn.never (qt_cmp oq_gt (qv 1) (qe_int)) (qss_one (qs_par (i := 0) (j := 1) rfl sc__law_part.nd rfl rfl (by decide) rfl rfl (qa_cons (qv 1) (qa_cons (qe_op oq_mod (qv 0) (qv 1)) (qa_nil))) (by rfl)))) (qss_one (qs_ret (qv 0)))
theorem rd__law_part : ∀ ds S Q, sp__law_part ds S Q → t__law_part { nx := fun _ S' => Fin3 S Q (.p .none) S', rt := Fin3 S Q } (env0 2 ds) S := by
  rintro _ S Q ⟨a, b, rfl, ha, hb, q⟩
  unfold t__law_part
  walk_at "rd"
  refine ⟨fun m e s => ∃ x y : Int, e = [some (.p (.int x)), some (.p (.int y))] ∧ s = S ∧ 0 ≤ x ∧ 0 ≤ y ∧ Int.gcd x y = Int.gcd a b ∧ m = y.toNat, ⟨_, a, b, rfl, rfl, ha, hb, rfl, rfl⟩, ?_⟩
  rintro m _ _ ⟨x, y, rfl, rfl, hx, hy, hg, rfl⟩
  walk_at "rd"
  by_cases h : 0 < y
  · rw [if_pos h]
    refine ⟨h, wk_self ⟨_, ?_, y, x % y, rfl, rfl, hy, Int.emod_nonneg _ (by omega), (gcd_step hx h).trans hg, rfl⟩⟩
    have := Int.emod_lt_of_pos x h
    have := Int.emod_nonneg x (show y ≠ 0 by omega)
    omega
  · rw [if_neg h]
    have hy0 : y = 0 := by omega
    subst hy0
    rw [Int.gcd_zero_right] at hg
    refine fin_p ?_
    rw [← hg] at q
    have : ((x.natAbs : Nat) : Int) = x := by omega
    rw [this] at q
    exact q
theorem ok__law_part (T : Txt K mg) : Ok3 P w K mg base 1 "_law_part" sp__law_part := by
  obtain ⟨f, fd, F, hm, hb⟩ := T.f__law_part
  exact Ok3.mk' F hm hb sc__law_part (fun ds S Q h => by simp only [sp__law_part] at h; first | (obtain ⟨rfl, _⟩ := h; rfl) | (obtain ⟨_, rfl, _⟩ := h; rfl) | (obtain ⟨_, _, rfl, _⟩ := h; rfl) | (obtain ⟨_, _, _, rfl, _⟩ := h; rfl) | (obtain ⟨_, _, _, _, rfl, _⟩ := h; rfl) | (obtain ⟨_, _, _, _, _, rfl, _⟩ := h; rfl) | (obtain ⟨_, _, _, _, _, _, rfl, _⟩ := h; rfl) | exact h.2) (fun cdv A outer s H E hr => dv__law_part T hr) rd__law_part
def sp__law_numbers : Sp3 := fun ds S Q => ∃ n : Nat, ds = [.loc n] ∧ Hd S n ∧ ∀ a b S', 1 ≤ a → a ≤ 1000000 → 1 ≤ b → b ≤ 1000000 → HdTo n S S' → Q (.p (.tuple [.int a, .int b])) S'
def t__law_numbers : TS3 := tSeq3 (tSet3 1 (tOp3 rIx3 (tPure (tLst3 (tCons3 (tC3 (.int 60)) (tCons3 (tC3 (.int 60)) (tCons3 (tC3 (.int 60)) (tCons3 (tC3 (.int 1000000)) (tNil3))))))) (tCB3 sp__law_take (tCons3 (tVar3 0) (tCons3 (tC3 (.int 4)) (tNil3)))))) (tSeq3 (tPr3 2 3 (tCons3 (tOp3 rAdd3 (tC3 (.int 1)) (tCB3 sp__law_take (tCons3 (tVar3 0) (tCons3 (tVar3 1) (tNil3))))) (tCons3 (tOp3 rAdd3 (tC3 (.int 1)) (tCB3 sp__law_take (tCons3 (tVar3 0) (tCons3 (tVar3 1) (tNil3))))) (tNil3)))) (tSeq3 (tSet3 4 (tCB3 sp__law_take (tCons3 (tVar3 0) (tCons3 (tC3 (.int 6)) (tNil3))))) (tSeq3 (tIfS3 (tTest3 (tOp3 rEq3 (tVar3 4) (tC3 (.int 0)))) (tSet3 3 (tVar3 2)) (tIfS3 (tTest3 (tOp3 rEq3 (tVar3 4) (tC3 (.int 1)))) (tSet3 3 (tCB3 (rInt2 (fun i j => if j < i then j else i)) (tCons3 (tC3 (.int 1000000)) (tCons3 (tOp3 rMul3 (tVar3 2) (tOp3 rAdd3 (tC3 (.int 1)) (tCB3 sp__law_take (tCons3 (tVar3 0) (tCons3 (tC3 (.int 9)) (tNil3)))))) (tNil3))))) (tNext3))) (tRet3 (tTup3 (tCons3 (tVar3 2) (tCons3 (tVar3 3) (tNil3))))))))
theorem dv__law_numbers (T : Txt K mg) {f : Addr} {cdv : Value} {A : Around} {outer : List Env} {s : Shared} {H : Hp} {E : XK} (hr : Room 1 (A.deeper (envOfC "_law_numbers" (defScope s__law_numbers) s.heap.objs.size f cdv))) : QSs (cxOf CX0 P w K mg base nm__law_numbers "_law_numbers" (defScope s__law_numbers) f cdv A outer s H E).nox (defBody s__law_numbers) t__law_numbers :=
  qss_cons (qs_set (i := 1) sc__law_numbers.nd rfl (by first | exact .inl rfl | exact .inr rfl) (qe_ix iq_seq (qn_pure (qn_lst (qa_cons (qe_int) (qa_cons (qe_int) (qa_cons (qe_int) (qa_cons (qe_int) (qa_nil))))))) (qe_call (ok__law_take T) (hr.mono (by decide)) (by rfl) (qa_cons (qv 0) (qa_cons (qe_int) (qa_nil)))))) (qss_cons (qs_par (i := 2) (j := 3) rfl sc__law_numbers.nd rfl rfl (by decide) rfl rfl (qa_cons (qe_op oq_add (qe_int) (qe_call (ok__law_take T) (hr.mono (by decide)) (by rfl) (qa_cons (qv 0) (qa_cons (qv 1) (qa_nil))))) (qa_cons (qe_op oq_add (qe_int) (qe_call (ok__law_take T) (hr.mono (by decide)) (by rfl) (qa_cons (qv 0) (qa_cons (qv 1) (qa_nil))))) (qa_nil))) (by rfl)) (qss_cons (qs_set (i := 4) sc__law_numbers.nd rfl (by first | exact .inl rfl | exact .inr rfl) (qe_call (ok__law_take T) (hr.mono (by decide)) (by rfl) (qa_cons (qv 0) (qa_cons (qe_int) (qa_nil))))) (qss_cons (qs_if (qt_cmp (oq_eq hr.units) (qv 4) (qe_int)) (qss_one (qs_set (i := 3) sc__law_numbers.nd rfl (by first | exact .inl rfl | exact .inr rfl) (qv 2))) (qss_one (qs_if (qt_cmp (oq_eq hr.units) (qv 4) (qe_int)) (qss_one (qs_set (i := 3) sc__law_numbers.nd rfl (by first | exact .inl rfl | exact .inr rfl) (qe_cb (cq_min2 rfl) (by rfl) T.b_min (by decide +kernel) (qa_cons (qe_int) (qa_cons (qe_op oq_mul (qv 2) (qe_op oq_add (qe_int) (qe_call (ok__law_take T) (hr.mono (by decide)) (by rfl) (qa_cons (qv 0) (qa_cons (qe_int) (qa_nil)))))) (qa_nil)))))) (qss_nil)))) (qss_one (qs_ret (qe_tup (qa_cons (qv 2) (qa_cons (qv 3) (qa_nil)))))))))
theorem rd__law_numbers : ∀ ds S Q, sp__law_numbers ds S Q → t__law_numbers { nx := fun _ S' => Fin3 S Q (.p .none) S', rt := Fin3 S Q } (env0 5 ds) S := by
  rintro _ S Q ⟨n, rfl, hd, q⟩
  unfold t__law_numbers sp__law_take
  walk_at "rd"
  refine ⟨n, 4, rfl, by decide, by decide, hd, fun d0 S0 a0 b0 t0 => ?_⟩
  have hd0 := t0.hd hd
  obtain ⟨v, hv, hv1, hv2⟩ : ∃ v, atI [PyData.int 60, PyData.int 60, PyData.int 60, PyData.int 1000000] d0 = some (.int v) ∧ 1 ≤ v ∧ v ≤ 1000000 := by
    obtain ⟨j, rfl⟩ := Int.eq_ofNat_of_zero_le a0
    match j, b0 with
    | 0, _ => exact ⟨60, rfl, by decide, by decide⟩
    | 1, _ => exact ⟨60, rfl, by decide, by decide⟩
    | 2, _ => exact ⟨60, rfl, by decide, by decide⟩
    | 3, _ => exact ⟨1000000, rfl, by decide, by decide⟩
    | j + 4, h => omega
  simp only [hv]
  walk_at "rd"
  refine ⟨n, v, rfl, by omega, by omega, hd0, fun d1 S1 a1 b1 t1 => ?_⟩
  have hd1 := t1.hd hd0
  refine ⟨n, v, rfl, by omega, by omega, hd1, fun d2 S2 a2 b2 t2 => ?_⟩
  have hd2 := t2.hd hd1
  refine ⟨n, 6, rfl, by decide, by decide, hd2, fun d3 S3 a3 b3 t3 => ?_⟩
  have hd3 := t3.hd hd2
  have tt := ((t0.trans t1).trans t2).trans t3
  walk_at "rd"
  by_cases h0 : d3 = 0
  · rw [if_pos h0]
    exact fin_hd tt (q _ _ _ (by omega) (by omega) (by omega) (by omega) tt)
  · rw [if_neg h0]
    by_cases h1 : d3 = 1
    · rw [if_pos h1]
      refine ⟨n, 9, rfl, by decide, by decide, hd3, fun d4 S4 a4 b4 t4 => ?_⟩
      have tt := tt.trans t4
      have pr : 1 + d1 ≤ (1 + d1) * (1 + d4) := by
        have := Int.mul_le_mul_of_nonneg_left (show (1 : Int) ≤ 1 + d4 by omega) (show 0 ≤ 1 + d1 by omega)
        omega
      walk_at "cj"
      refine fin_hd tt (q _ _ _ (by omega) (by omega) ?_ ?_ tt)
      · split <;> omega
      · split <;> omega
    · rw [if_neg h1]
      exact fin_hd tt (q _ _ _ (by omega) (by omega) (by omega) (by omega) tt)
theorem ok__law_numbers (T : Txt K mg) : Ok3 P w K mg base 2 "_law_numbers" sp__law_numbers := by
  obtain ⟨f, fd, F, hm, hb⟩ := T.f__law_numbers
  exact Ok3.mk' F hm hb sc__law_numbers (fun ds S Q h => by simp only [sp__law_numbers] at h; first | (obtain ⟨rfl, _⟩ := h; rfl) | (obtain ⟨_, rfl, _⟩ := h; rfl) | (obtain ⟨_, _, rfl, _⟩ := h; rfl) | (obtain ⟨_, _, _, rfl, _⟩ := h; rfl) | (obtain ⟨_, _, _, _, rfl, _⟩ := h; rfl) | (obtain ⟨_, _, _, _, _, rfl, _⟩ := h; rfl) | (obtain ⟨_, _, _, _, _, _, rfl, _⟩ := h; rfl) | exact h.2) (fun cdv A outer s H E hr => dv__law_numbers T hr) rd__law_numbers
def sp__law_right : Sp3 := fun ds S Q => ∃ (td : PyData) (one m other n : Int), ds = [.p td, .p (.int one), .p (.int m), .p (.int other), .p (.int n)] ∧ 0 < m ∧ m ≤ 1000000 ∧ 0 < n ∧ n ≤ 1000000 ∧
  ((td = .none ∧ (other - one) % (Int.gcd m n : Int) ≠ 0) ∨ ∃ x, td = .int x ∧ (other - one) % (Int.gcd m n : Int) = 0 ∧ Meets one m other n x) ∧ Q (.p (.bool true)) S
def t__law_right : TS3 := tSeq3 (tSet3 5 (tCB3 sp__law_part (tCons3 (tVar3 2) (tCons3 (tVar3 4) (tNil3))))) (tSeq3 (tIfS3 (tOr3 (tTest3 (tOp3 rIs3 (tVar3 0) (tC3 .none))) (tTest3 (tOp3 rNe3 (tOp3 rMod3 (tOp3 rSub3 (tVar3 1) (tVar3 3)) (tVar3 5)) (tC3 (.int 0))))) (tRet3 (tAndV3 (tOp3 rIs3 (tVar3 0) (tC3 .none)) (tOp3 rNe3 (tOp3 rMod3 (tOp3 rSub3 (tVar3 1) (tVar3 3)) (tVar3 5)) (tC3 (.int 0))))) (tNext3)) (tSeq3 (tIfS3 (tOr3 (tNot3 (tTest3 (tIsi3 "int" (tVar3 0)))) (tOr3 (tTest3 (tIsi3 "bool" (tVar3 0))) (tNot3 (tTest3 (tChain3 rLe3 rLt3 (tC3 (.int 0)) (tVar3 0) (tOp3 rMul3 (tOp3 rDiv3 (tVar3 2) (tVar3 5)) (tVar3 4))))))) (tRet3 (tC3 (.bool false))) (tNext3)) (tSeq3 (tIfS3 (tTest3 (tOp3 rLt3 (tOp3 rMul3 (tVar3 2) (tVar3 4)) (tC3 (.int 3601)))) (tSeq3 (tSet3 6 (tPure (tLc3 (tRng1 (tCons3 (tOp3 rMul3 (tVar3 2) (tVar3 4)) (tNil3))) (.nm 7) (tTest3 (tOp3 rEq3 (tOp3 rMod3 (tVar3 7) (tVar3 2)) (tVar3 1))) (tVar3 7) [7]))) (tIfS3 (tTest3 (tOp3 rNe3 (tVar3 0) (tOp3 rIx3 (tPure (tLc3 (tSeqI3 (tVar3 6)) (.nm 7) (tTest3 (tOp3 rEq3 (tOp3 rMod3 (tVar3 7) (tVar3 4)) (tVar3 3))) (tVar3 7) [7])) (tC3 (.int 0))))) (tRet3 (tC3 (.bool false))) (tNext3))) (tNext3)) (tRet3 (tAndV3 (tOp3 rEq3 (tOp3 rMod3 (tVar3 0) (tVar3 2)) (tVar3 1)) (tOp3 rEq3 (tOp3 rMod3 (tVar3 0) (tVar3 4)) (tVar3 3)))))))
theorem dv__law_right (T : Txt K mg) {f : Addr} {cdv : Value} {A : Around} {outer : List Env} {s : Shared} {H : Hp} {E : XK} (hr : Room 1 (A.deeper (envOfC "_law_right" (defScope s__law_right) s.heap.objs.size f cdv))) : QSs (cxOf CX0 P w K mg base nm__law_right "_law_right" (defScope s__law_right) f cdv A outer s H E).nox (defBody s__law_right) t__law_right :=
  qss_cons (qs_set (i := 5) sc__law_right.nd rfl (by first | exact .inl rfl | exact .inr rfl) (qe_call (ok__law_part T) (hr.mono (by decide)) (by rfl) (qa_cons (qv 2) (qa_cons (qv 4) (qa_nil))))) (qss_cons (qs_if (qt_w (qw_or (qt_cmp oq_is (qv 0) (qe_non)) (qw_or1 (qt_cmp (oq_ne hr.units) (qe_op oq_mod (qe_op oq_sub (qv 1) (qv 3)) (qv 5)) (qe_int))))) (qss_one (qs_ret (qe_and (qe_cmp oq_is (qv 0) (qe_non)) (qe_one (qe_cmp (oq_ne hr.units) (qe_op oq_mod (qe_op oq_sub (qv 1) (qv 3)) (qv 5)) (qe_int)))))) (qss_nil)) (qss_cons (qs_if (qt_w (qw_or (qt_not (qt_val (qe_isi (T := "int") (by decide +kernel) (by rfl) (T.b_isinstance) (by rfl) (T.b_int) (by decide +kernel) (by decide) (by decide) (qv 0)))) (qw_or (qt_val (qe_isi (T := "bool") (by decide +kernel) (by rfl) (T.b_isinstance) (by rfl) (T.b_bool) (by decide +kernel) (by decide) (by decide) (qv 0))) (qw_or1 (qt_not (qt_chain oq_le oq_lt (qe_int) (qv 0) (qe_op oq_mul (qe_op oq_div (qv 2) (qv 5)) (qv 4)))))))) (qss_one (qs_ret (qe_bl))) (qss_nil)) (qss_cons (qs_if (qt_cmp oq_lt (qe_op oq_mul (qv 2) (qv 4)) (qe_int)) (qss_cons (qs_setLcP (i := 6) (own := [("_law_x", 7)]) rfl sc__law_right.nd rfl rfl (sw_true rfl rfl rfl (by decide +kernel)) (qi_range1 (by rfl) T.b_range (qa_cons (qe_op oq_mul (qv 2) (qv 4)) (qa_nil))) (blkOk_by (own := [("_law_x", 7)]) (N := nm__law_right) (sc := defScope s__law_right) (by decide +kernel)) (fun _ _ _ _ _ => qb_nm (i := 7) sc__law_right.nd rfl (by first | exact .inl rfl | exact .inr rfl)) (fun _ _ _ _ _ => qts_one (qt_cmp (oq_eq hr.units) (qe_op oq_mod (qv 7) (qv 2)) (qv 1))) (fun _ _ _ _ _ => qv 7)) (qss_one (qs_if (qt_cmp (oq_ne hr.units) (qv 0) (qe_ix iq_seq (qn_pure (qn_lc (own := [("_law_x", 7)]) rfl sc__law_right.nd (qi_seq (qv 6)) (blkOk_by (own := [("_law_x", 7)]) (N := nm__law_right) (sc := defScope s__law_right) (by decide +kernel)) (fun _ _ _ _ _ => qb_nm (i := 7) sc__law_right.nd rfl (by first | exact .inl rfl | exact .inr rfl)) (fun _ _ _ _ _ => qts_one (qt_cmp (oq_eq hr.units) (qe_op oq_mod (qv 7) (qv 4)) (qv 3))) (fun _ _ _ _ _ => qv 7))) (qe_int))) (qss_one (qs_ret (qe_bl))) (qss_nil)))) (qss_nil)) (qss_one (qs_ret (qe_and (qe_cmp (oq_eq hr.units) (qe_op oq_mod (qv 0) (qv 2)) (qv 1)) (qe_one (qe_cmp (oq_eq hr.units) (qe_op oq_mod (qv 0) (qv 4)) (qv 3)))))))))
theorem rd__law_right : ∀ ds S Q, sp__law_right ds S Q → t__law_right { nx := fun _ S' => Fin3 S Q (.p .none) S', rt := Fin3 S Q } (env0 8 ds) S := by
  rintro _ S Q ⟨td, one, m, other, n, rfl, hm, hm1, hn, hn1, h, q⟩
  have hg := gcd_pos (n := n) hm
  rcases h with ⟨rfl, h⟩ | ⟨x, rfl, h, hx⟩
  · have h' : ¬ (one - other) % (Int.gcd m n : Int) = 0 := fun z => h (rest_swap.mp z)
    unfold t__law_right sp__law_part
    walk_at "rd"
    refine ⟨m, n, rfl, by omega, by omega, hg, fin_p ?_⟩
    rw [beq_false_of_ne h']
    exact q
  · have h' : (one - other) % (Int.gcd m n : Int) = 0 := rest_swap.mp h
    obtain ⟨m', n', hm', hn', em, en, hgg, e1, e2⟩ := split_gcd hm hn
    have hgm : (Int.gcd m n : Int) ≤ m := Int.le_of_dvd hm (Int.gcd_dvd_left ..)
    have em1 : m' ≤ m := by rw [← e1]; exact Int.ediv_le_self _ (by omega)
    have hle : m / (Int.gcd m n : Int) * n ≤ m * n := by
      rw [e1]
      exact Int.mul_le_mul_of_nonneg_right em1 (by omega)
    unfold t__law_right sp__law_part
    walk_at "rd"
    refine ⟨m, n, rfl, by omega, by omega, hg, ?_⟩
    simp only [h']
    walk_at "rd"
    rw [if_pos hx.1]
    refine ⟨⟨hg, .inl (by omega)⟩, .inl (by rw [e1]; exact ⟨by omega, by omega⟩), ?_⟩
    rw [if_neg (fun z => z hx.2.1)]
    have fin : 0 < m ∧ if x % m = one then 0 < n ∧ Fin3 S Q (D.p (PyData.bool (x % n == other))) S else Fin3 S Q (D.p (PyData.bool false)) S := by
      rw [if_pos hx.2.2.1]
      refine ⟨hm, hn, fin_p ?_⟩
      rw [hx.2.2.2, beq_self_eq_true]
      exact q
    refine ⟨.inl ⟨by omega, by omega⟩, ?_⟩
    by_cases hs : m * n < 3601
    · rw [if_pos hs]
      have hmn : 0 < m * n := Int.mul_pos hm hn
      obtain ⟨r, hr⟩ := first_of hm hn hx hle
      refine ⟨.inl ⟨by omega, by omega⟩, ⟨by omega, by omega⟩, ?_⟩
      refine ⟨fun i acc s => s = S ∧ acc = (((rng 0 (m * n).toNat).take i).filter fun d => match d with | .int y => decide (y % m = one) | _ => false), ⟨rfl, rfl⟩, fun _ _ _ _ => trivial, ?_, ?_⟩
      · rintro i d acc s hd ⟨rfl, rfl⟩
        obtain ⟨_, rfl⟩ := rng_get hd
        have tf := take_filter (p := fun d => match d with | .int y => decide (y % m = one) | _ => false) (f := id) hd
        simp only [List.map_id_fun, id_eq, List.map_id] at tf
        walk_at "rd"
        refine ⟨hm, ?_⟩
        split
        · rename_i h1
          rw [tf, if_pos (decide_eq_true h1)]
        · rename_i h1
          rw [tf, if_neg (fun z => h1 (of_decide_eq_true z)), List.append_nil]
      · rintro acc s ⟨rfl, rfl⟩
        rw [List.take_length]
        refine ⟨fun i acc s' => s' = s ∧ acc = ((((rng 0 (m * n).toNat).filter fun d => match d with | .int y => decide (y % m = one) | _ => false).take i).filter fun d => match d with | .int y => decide (y % n = other) | _ => false), ⟨rfl, rfl⟩, fun _ _ _ _ => trivial, ?_, ?_⟩
        · rintro i d acc s hd ⟨rfl, rfl⟩
          have tf := take_filter (p := fun d => match d with | .int y => decide (y % n = other) | _ => false) (f := id) hd
          simp only [List.map_id_fun, id_eq, List.map_id] at tf
          obtain ⟨y, rfl⟩ := rng_ints hd
          walk_at "rd"
          refine ⟨hn, ?_⟩
          split
          · rename_i h1
            rw [tf, if_pos (decide_eq_true h1)]
          · rename_i h1
            rw [tf, if_neg (fun z => h1 (of_decide_eq_true z)), List.append_nil]
        · rintro acc s ⟨rfl, rfl⟩
          rw [List.take_length, hr]
          walk_at "rd"
          exact fin
    · rw [if_neg hs]
      exact fin
theorem ok__law_right (T : Txt K mg) : Ok3 P w K mg base 2 "_law_right" sp__law_right := by
  obtain ⟨f, fd, F, hm, hb⟩ := T.f__law_right
  exact Ok3.mk' F hm hb sc__law_right (fun ds S Q h => by simp only [sp__law_right] at h; first | (obtain ⟨rfl, _⟩ := h; rfl) | (obtain ⟨_, rfl, _⟩ := h; rfl) | (obtain ⟨_, _, rfl, _⟩ := h; rfl) | (obtain ⟨_, _, _, rfl, _⟩ := h; rfl) | (obtain ⟨_, _, _, _, rfl, _⟩ := h; rfl) | (obtain ⟨_, _, _, _, _, rfl, _⟩ := h; rfl) | (obtain ⟨_, _, _, _, _, _, rfl, _⟩ := h; rfl) | exact h.2) (fun cdv A outer s H E hr => dv__law_right T hr) rd__law_right
def sp_law : Sp3 := spLaw3
def t_law : TS3 := tSeq3 (tFor3 (tRng1 (tCons3 (tOp3 rAdd3 (tC3 (.int 3)) (tCB3 (rInt2 (fun i j => if j < i then j else i)) (tCons3 (tC3 (.int 20)) (tCons3 (tCB3 (rLen3) (tCons3 (tVar3 0) (tNil3))) (tNil3))))) (tNil3))) (.nm 1) (tSeq3 (tSet3 2 (tCB3 sp__law_hand (tCons3 (tVar3 0) (tCons3 (tVar3 1) (tNil3))))) (tSeq3 (tAsgT3 (tCB3 sp__law_numbers (tCons3 (tVar3 2) (tNil3))) (.tup (.cons (.nm 3) (.cons (.nm 4) (.nil))))) (tSeq3 (tPr3 5 6 (tCons3 (tCB3 sp__law_take (tCons3 (tVar3 2) (tCons3 (tOp3 rPow3 (tC3 (.int 10)) (tC3 (.int 12))) (tNil3)))) (tCons3 (tCB3 sp__law_take (tCons3 (tVar3 2) (tCons3 (tOp3 rPow3 (tC3 (.int 10)) (tC3 (.int 12))) (tNil3)))) (tNil3)))) (tSeq3 (tPr3 7 8 (tCons3 (tOp3 rMod3 (tVar3 5) (tVar3 3)) (tCons3 (tOp3 rMod3 (tOp3 rIx3 (tPure (tLst3 (tCons3 (tVar3 5) (tCons3 (tVar3 6) (tNil3))))) (tCB3 sp__law_take (tCons3 (tVar3 2) (tCons3 (tC3 (.int 2)) (tNil3))))) (tVar3 4)) (tNil3)))) (tSeq3 (tSet3 9 (tCB3 sp_meeting (tCons3 (tVar3 7) (tCons3 (tVar3 3) (tCons3 (tVar3 8) (tCons3 (tVar3 4) (tNil3))))))) (tIfS3 (tOr3 (tNot3 (tTest3 (tCB3 sp__law_right (tCons3 (tVar3 9) (tCons3 (tVar3 7) (tCons3 (tVar3 3) (tCons3 (tVar3 8) (tCons3 (tVar3 4) (tNil3))))))))) (tTest3 (tOp3 rNe3 (tCB3 (rRepr3) (tCons3 (tCB3 sp_meeting (tCons3 (tVar3 8) (tCons3 (tVar3 4) (tCons3 (tVar3 7) (tCons3 (tVar3 3) (tNil3)))))) (tNil3))) (tCB3 (rRepr3) (tCons3 (tVar3 9) (tNil3)))))) (tRet3 (tC3 (.bool false))) (tNext3)))))))) (tRet3 (tAndV3 (tOp3 rEq3 (tCB3 sp_meeting (tCons3 (tC3 (.int 0)) (tCons3 (tC3 (.int 1)) (tCons3 (tC3 (.int 0)) (tCons3 (tC3 (.int 1)) (tNil3)))))) (tC3 (.int 0))) (tAndV3 (tOp3 rIs3 (tCB3 sp_meeting (tCons3 (tC3 (.int 0)) (tCons3 (tC3 (.int 2)) (tCons3 (tC3 (.int 1)) (tCons3 (tC3 (.int 2)) (tNil3)))))) (tC3 .none)) (tOp3 rEq3 (tCB3 sp_meeting (tCons3 (tC3 (.int 999999)) (tCons3 (tC3 (.int 1000000)) (tCons3 (tC3 (.int 0)) (tCons3 (tC3 (.int 1)) (tNil3)))))) (tC3 (.int 999999))))))
theorem dv_law (T : Txt K mg) {f : Addr} {cdv : Value} {A : Around} {outer : List Env} {s : Shared} {H : Hp} {E : XK} (hr : Room 2 (A.deeper (envOfC "law" (defScope s_law) s.heap.objs.size f cdv))) : QSs (cxOf CX0 P w K mg base nm_law "law" (defScope s_law) f cdv A outer s H E).nox (defBody s_law) t_law :=
  qss_cons (qs_for PassesOwn.never rfl (qi_range1 (by rfl) T.b_range (qa_cons (qe_op oq_add (qe_int) (qe_cb (cq_min2 rfl) (by rfl) T.b_min (by decide +kernel) (qa_cons (qe_int) (qa_cons (qe_cb cq_len (by rfl) T.b_len (by decide +kernel) (qa_cons (qv 0) (qa_nil))) (qa_nil))))) (qa_nil))) (qb_nm (i := 1) sc_law.nd rfl (by first | exact .inl rfl | exact .inr rfl)) (qss_cons (qs_set (i := 2) sc_law.nd rfl (by first | exact .inl rfl | exact .inr rfl) (qe_call (ok__law_hand T) (hr.mono (by decide)) (by rfl) (qa_cons (qv 0) (qa_cons (qv 1) (qa_nil))))) (qss_cons (qs_asgT (qe_call (ok__law_numbers T) (hr.mono (by decide)) (by rfl) (qa_cons (qv 2) (qa_nil))) (qb_tup rfl (qbs_cons (qb_nm (i := 3) sc_law.nd rfl (by first | exact .inl rfl | exact .inr rfl)) (qbs_cons (qb_nm (i := 4) sc_law.nd rfl (by first | exact .inl rfl | exact .inr rfl)) (qbs_nil))))) (qss_cons (qs_par (i := 5) (j := 6) rfl sc_law.nd rfl rfl (by decide) rfl rfl (qa_cons (qe_call (ok__law_take T) (hr.mono (by decide)) (by rfl) (qa_cons (qv 2) (qa_cons (qe_op oq_pow (qe_int) (qe_int)) (qa_nil)))) (qa_cons (qe_call (ok__law_take T) (hr.mono (by decide)) (by rfl) (qa_cons (qv 2) (qa_cons (qe_op oq_pow (qe_int) (qe_int)) (qa_nil)))) (qa_nil))) (by rfl)) (qss_cons (qs_par (i := 7) (j := 8) rfl sc_law.nd rfl rfl (by decide) rfl rfl (qa_cons (qe_op oq_mod (qv 5) (qv 3)) (qa_cons (qe_op oq_mod (qe_ix iq_seq (qn_pure (qn_lst (qa_cons (qv 5) (qa_cons (qv 6) (qa_nil))))) (qe_call (ok__law_take T) (hr.mono (by decide)) (by rfl) (qa_cons (qv 2) (qa_cons (qe_int) (qa_nil))))) (qv 4)) (qa_nil))) (by rfl)) (qss_cons (qs_set (i := 9) sc_law.nd rfl (by first | exact .inl rfl | exact .inr rfl) (qe_call (ok_meeting T) (hr.mono (by decide)) (by rfl) (qa_cons (qv 7) (qa_cons (qv 3) (qa_cons (qv 8) (qa_cons (qv 4) (qa_nil))))))) (qss_one (qs_if (qt_w (qw_or (qt_not (qt_val (qe_call (ok__law_right T) (hr.mono (by decide)) (by rfl) (qa_cons (qv 9) (qa_cons (qv 7) (qa_cons (qv 3) (qa_cons (qv 8) (qa_cons (qv 4) (qa_nil))))))))) (qw_or1 (qt_cmp (oq_ne hr.units) (qe_cb cq_repr (by rfl) T.b_repr (by decide +kernel) (qa_cons (qe_call (ok_meeting T) (hr.mono (by decide)) (by rfl) (qa_cons (qv 8) (qa_cons (qv 4) (qa_cons (qv 7) (qa_cons (qv 3) (qa_nil)))))) (qa_nil))) (qe_cb cq_repr (by rfl) T.b_repr (by decide +kernel) (qa_cons (qv 9) (qa_nil))))))) (qss_one (qs_ret (qe_bl))) (qss_nil))))))))) (qss_one (qs_ret (qe_and (qe_cmp (oq_eq hr.units) (qe_call (ok_meeting T) (hr.mono (by decide)) (by rfl) (qa_cons (qe_int) (qa_cons (qe_int) (qa_cons (qe_int) (qa_cons (qe_int) (qa_nil)))))) (qe_int)) (qe_and (qe_cmp oq_is (qe_call (ok_meeting T) (hr.mono (by decide)) (by rfl) (qa_cons (qe_int) (qa_cons (qe_int) (qa_cons (qe_int) (qa_cons (qe_int) (qa_nil)))))) (qe_non)) (qe_one (qe_cmp (oq_eq hr.units) (qe_call (ok_meeting T) (hr.mono (by decide)) (by rfl) (qa_cons (qe_int) (qa_cons (qe_int) (qa_cons (qe_int) (qa_cons (qe_int) (qa_nil)))))) (qe_int)))))))
theorem rd_law : ∀ ds S Q, sp_law ds S Q → t_law { nx := fun _ S' => Fin3 S Q (.p .none) S', rt := Fin3 S Q } (env0 10 ds) S := by
  rintro _ S Q ⟨ns, rfl, hl, rfl, q⟩
  unfold t_law sp__law_hand sp__law_numbers sp__law_take sp_meeting sp__law_right
  walk_at "rd"
  refine ⟨by constructor <;> split <;> omega, ?_⟩
  refine ⟨fun i e s => s = [] ∧ e = [some (.p (.list (ns.map PyData.int))), none, none, none, none, none, none, none, none, none], ⟨rfl, rfl⟩, fun _ _ _ _ => trivial, ?_, ?_⟩
  · rintro i d e s hd ⟨rfl, rfl⟩
    obtain ⟨hi, rfl⟩ := rng_get hd
    walk_at "rd"
    have hi2 : i < 23 := by
      have : (if (ns.length : Int) < 20 then (ns.length : Int) else 20) ≤ 20 := by split <;> omega
      omega
    refine ⟨ns, _, rfl, hl, by omega, by omega, fun g x c => ?_⟩
    generalize hS0 : ([some (O3.lst [.int g, .int x, .int c])] : S3) = S0
    have hd0 : Hd S0 0 := by rw [← hS0]; exact ⟨g, x, c, rfl⟩
    have hlen : S0.length = 1 := by rw [← hS0]; rfl
    refine ⟨0, rfl, hd0, fun m n S1 hm hm1 hn hn1 t1 => ?_⟩
    have hd1 := t1.hd hd0
    walk_at "cj"
    refine ⟨0, _, rfl, by decide, by decide, hd1, fun drawn S2 a2 b2 t2 => ?_⟩
    have hd2 := t2.hd hd1
    walk_at "cj"
    refine ⟨0, _, rfl, by decide, by decide, hd2, fun far S3 a3 b3 t3 => ?_⟩
    have hd3 := t3.hd hd2
    walk_at "cj"
    refine ⟨0, 2, rfl, by decide, by decide, hd3, fun which S4 a4 b4 t4 => ?_⟩
    obtain ⟨v, hv⟩ : ∃ v, atI [PyData.int drawn, PyData.int far] which = some (.int v) := by
      obtain ⟨j, rfl⟩ := Int.eq_ofNat_of_zero_le a4
      match j, b4 with
      | 0, _ => exact ⟨drawn, rfl⟩
      | 1, _ => exact ⟨far, rfl⟩
      | j + 2, h => omega
    simp only [hv]
    walk_at "rd"
    walk_at "cj"
    have o0 : 0 ≤ drawn % m := Int.emod_nonneg _ (by omega)
    have o1 : drawn % m < m := Int.emod_lt_of_pos _ (by omega)
    have o2 : 0 ≤ v % n := Int.emod_nonneg _ (by omega)
    have o3 : v % n < n := Int.emod_lt_of_pos _ (by omega)
    generalize drawn % m = one at *
    generalize v % n = other at *
    have wk : ∀ a b c : D, Wk 0 (fun e s => s = [] ∧ e = [some (.p (.list (ns.map PyData.int))), none, none, none, none, none, none, none, none, none]) [some (D.p (PyData.list (ns.map PyData.int))), some (D.p (PyData.int (0 + (i : Int)))), some (D.loc 0), some (.p (.int m)), some (.p (.int n)), some (.p (.int drawn)), some (.p (.int far)), some (.p (.int one)), some (.p (.int other)), some a] S4 := fun a _ _ =>
      .inr ⟨0, _, Nat.le_refl _, .keep (.drop (.drop (.drop (.drop (.drop (.drop (.drop (.drop (.drop .nil))))))))), by rw [List.take_zero], rfl⟩
    refine ⟨one, m, other, n, rfl, by omega, by omega, by omega, by omega, o0, o1, o2, o3, fun h => ?_, fun h x hx => ?_⟩
    · refine ⟨.none, one, m, other, n, rfl, by omega, by omega, by omega, by omega, .inl ⟨rfl, h⟩, ?_⟩
      refine ⟨other, n, one, m, rfl, by omega, by omega, by omega, by omega, o2, o3, o0, o1, fun h2 => ?_, fun h2 => ?_⟩
      · walk_at "rd"
        exact wk _ (.loc 0) (.loc 0)
      · rw [Int.gcd_comm n m] at h2
        exact absurd (rest_swap.mp h2) h
    · refine ⟨.int x, one, m, other, n, rfl, by omega, by omega, by omega, by omega, .inr ⟨x, rfl, h, hx⟩, ?_⟩
      refine ⟨other, n, one, m, rfl, by omega, by omega, by omega, by omega, o2, o3, o0, o1, fun h2 => ?_, fun h2 y hy => ?_⟩
      · rw [Int.gcd_comm n m] at h2
        exact absurd (rest_swap.mp h) h2
      · have e := meets_uniq (by omega) (by omega) hx (meets_swap (by omega) (by omega) hy)
        subst e
        have hxx : x.natAbs.log2 < 1920 := by
          obtain ⟨m', n', hm', hn', em, en, hgg, e1, e2⟩ := split_gcd (show 0 < m by omega) (show 0 < n by omega)
          have em1 : m' ≤ m := by rw [← e1]; exact Int.ediv_le_self _ (by omega)
          have h3 := hx.2.1
          rw [e1] at h3
          have h4 : m' * n ≤ 1000000 * 1000000 := Int.mul_le_mul (by omega) (by omega) (by omega) (by decide)
          exact log_small hx.1 (by omega)
        walk_at "rd"
        exact ⟨hxx, hxx, wk _ (.loc 0) (.loc 0)⟩
  · rintro e s ⟨rfl, rfl⟩
    refine ⟨0, 1, 0, 1, rfl, by decide, by decide, by decide, by decide, by decide, by decide, by decide, by decide, fun h => absurd rfl h, fun _ x hx => ?_⟩
    obtain ⟨h1, h2, _⟩ := hx
    have hx0 : x = 0 := by
      have : (1 : Int) / ((Int.gcd 1 1 : Nat) : Int) * 1 = 1 := rfl
      omega
    rw [if_pos hx0]
    refine ⟨0, 2, 1, 2, rfl, by decide, by decide, by decide, by decide, by decide, by decide, by decide, by decide, fun _ => ?_, fun h => absurd h (by decide)⟩
    refine ⟨999999, 1000000, 0, 1, rfl, by decide, by decide, by decide, by decide, by decide, by decide, by decide, by decide, fun h => absurd rfl h, fun _ x hx => ?_⟩
    obtain ⟨h1, h2, h3, _⟩ := hx
    have hx0 : x = 999999 := by
      have : (1000000 : Int) / ((Int.gcd 1000000 1 : Nat) : Int) * 1 = 1000000 := by decide +kernel
      omega
    subst hx0
    exact fin_p (q _)
theorem ok_law (T : Txt K mg) : Ok3 P w K mg base 3 "law" sp_law := by
  obtain ⟨f, fd, F, hm, hb⟩ := T.f_law
  exact Ok3.mk' F hm hb sc_law (fun ds S Q h => by simp only [sp_law] at h; first | (obtain ⟨rfl, _⟩ := h; rfl) | (obtain ⟨_, rfl, _⟩ := h; rfl) | (obtain ⟨_, _, rfl, _⟩ := h; rfl) | (obtain ⟨_, _, _, rfl, _⟩ := h; rfl) | (obtain ⟨_, _, _, _, rfl, _⟩ := h; rfl) | (obtain ⟨_, _, _, _, _, rfl, _⟩ := h; rfl) | (obtain ⟨_, _, _, _, _, _, rfl, _⟩ := h; rfl) | exact h.2) (fun cdv A outer s H E hr => dv_law T hr) rd_law
end
theorem all_mk {l : PySem.W.OpenLaw} {w : World} {K : PySem.W.Frag} {h : Heap} {mg : Str → Option Value} {fa : Addr} (X : K.In h) (G : h.Ns mainGlobals mg) (hfa : mg "law" = some (.ref fa))
    {f0 : Addr} {od0 an0 : Option Addr} {sl0 : Array (Option Value)} {oc0 kV0 dc0 pm0 cd0 ct0 : Value} (a0 : PySem.W.nsIn K mainGlobals "greatest_part" = some (some (.ref f0))) (l0 : K.lookup f0 = some ⟨oc0, od0, .func (PySem.W.fnOf "greatest_part" "greatest_part" (defArgs s_greatest_part) (defBody s_greatest_part) (defScope s_greatest_part) .none kV0 dc0 pm0 an0 cd0 ct0), sl0⟩) (c0 : PySem.W.codeIn K cd0 "greatest_part" = true) (k0 : PySem.W.keepIn K (.ref f0) = true)
    {f1 : Addr} {od1 an1 : Option Addr} {sl1 : Array (Option Value)} {oc1 kV1 dc1 pm1 cd1 ct1 : Value} (a1 : PySem.W.nsIn K mainGlobals "turned_by" = some (some (.ref f1))) (l1 : K.lookup f1 = some ⟨oc1, od1, .func (PySem.W.fnOf "turned_by" "turned_by" (defArgs s_turned_by) (defBody s_turned_by) (defScope s_turned_by) .none kV1 dc1 pm1 an1 cd1 ct1), sl1⟩) (c1 : PySem.W.codeIn K cd1 "turned_by" = true) (k1 : PySem.W.keepIn K (.ref f1) = true)
    {f2 : Addr} {od2 an2 : Option Addr} {sl2 : Array (Option Value)} {oc2 kV2 dc2 pm2 cd2 ct2 : Value} (a2 : PySem.W.nsIn K mainGlobals "meeting" = some (some (.ref f2))) (l2 : K.lookup f2 = some ⟨oc2, od2, .func (PySem.W.fnOf "meeting" "meeting" (defArgs s_meeting) (defBody s_meeting) (defScope s_meeting) .none kV2 dc2 pm2 an2 cd2 ct2), sl2⟩) (c2 : PySem.W.codeIn K cd2 "meeting" = true) (k2 : PySem.W.keepIn K (.ref f2) = true)
    {f3 : Addr} {od3 an3 : Option Addr} {sl3 : Array (Option Value)} {oc3 kV3 dc3 pm3 cd3 ct3 : Value} (a3 : PySem.W.nsIn K mainGlobals "_law_hand" = some (some (.ref f3))) (l3 : K.lookup f3 = some ⟨oc3, od3, .func (PySem.W.fnOf "_law_hand" "_law_hand" (defArgs s__law_hand) (defBody s__law_hand) (defScope s__law_hand) .none kV3 dc3 pm3 an3 cd3 ct3), sl3⟩) (c3 : PySem.W.codeIn K cd3 "_law_hand" = true) (k3 : PySem.W.keepIn K (.ref f3) = true)
    {f4 : Addr} {od4 an4 : Option Addr} {sl4 : Array (Option Value)} {oc4 kV4 dc4 pm4 cd4 ct4 : Value} (a4 : PySem.W.nsIn K mainGlobals "_law_take" = some (some (.ref f4))) (l4 : K.lookup f4 = some ⟨oc4, od4, .func (PySem.W.fnOf "_law_take" "_law_take" (defArgs s__law_take) (defBody s__law_take) (defScope s__law_take) .none kV4 dc4 pm4 an4 cd4 ct4), sl4⟩) (c4 : PySem.W.codeIn K cd4 "_law_take" = true) (k4 : PySem.W.keepIn K (.ref f4) = true)
    {f5 : Addr} {od5 an5 : Option Addr} {sl5 : Array (Option Value)} {oc5 kV5 dc5 pm5 cd5 ct5 : Value} (a5 : PySem.W.nsIn K mainGlobals "_law_part" = some (some (.ref f5))) (l5 : K.lookup f5 = some ⟨oc5, od5, .func (PySem.W.fnOf "_law_part" "_law_part" (defArgs s__law_part) (defBody s__law_part) (defScope s__law_part) .none kV5 dc5 pm5 an5 cd5 ct5), sl5⟩) (c5 : PySem.W.codeIn K cd5 "_law_part" = true) (k5 : PySem.W.keepIn K (.ref f5) = true)
    {f6 : Addr} {od6 an6 : Option Addr} {sl6 : Array (Option Value)} {oc6 kV6 dc6 pm6 cd6 ct6 : Value} (a6 : PySem.W.nsIn K mainGlobals "_law_numbers" = some (some (.ref f6))) (l6 : K.lookup f6 = some ⟨oc6, od6, .func (PySem.W.fnOf "_law_numbers" "_law_numbers" (defArgs s__law_numbers) (defBody s__law_numbers) (defScope s__law_numbers) .none kV6 dc6 pm6 an6 cd6 ct6), sl6⟩) (c6 : PySem.W.codeIn K cd6 "_law_numbers" = true) (k6 : PySem.W.keepIn K (.ref f6) = true)
    {f7 : Addr} {od7 an7 : Option Addr} {sl7 : Array (Option Value)} {oc7 kV7 dc7 pm7 cd7 ct7 : Value} (a7 : PySem.W.nsIn K mainGlobals "_law_right" = some (some (.ref f7))) (l7 : K.lookup f7 = some ⟨oc7, od7, .func (PySem.W.fnOf "_law_right" "_law_right" (defArgs s__law_right) (defBody s__law_right) (defScope s__law_right) .none kV7 dc7 pm7 an7 cd7 ct7), sl7⟩) (c7 : PySem.W.codeIn K cd7 "_law_right" = true) (k7 : PySem.W.keepIn K (.ref f7) = true)
    {f8 : Addr} {od8 an8 : Option Addr} {sl8 : Array (Option Value)} {oc8 kV8 dc8 pm8 cd8 ct8 : Value} (a8 : PySem.W.nsIn K mainGlobals "law" = some (some (.ref f8))) (l8 : K.lookup f8 = some ⟨oc8, od8, .func (PySem.W.fnOf "law" "law" (defArgs s_law) (defBody s_law) (defScope s_law) .none kV8 dc8 pm8 an8 cd8 ct8), sl8⟩) (c8 : PySem.W.codeIn K cd8 "law" = true) (k8 : PySem.W.keepIn K (.ref f8) = true)
    (z_bool : PySem.W.nsIn K mainGlobals "bool" = some none)
    (z_int : PySem.W.nsIn K mainGlobals "int" = some none)
    (z_isinstance : PySem.W.nsIn K mainGlobals "isinstance" = some none)
    (z_len : PySem.W.nsIn K mainGlobals "len" = some none)
    (z_min : PySem.W.nsIn K mainGlobals "min" = some none)
    (z_range : PySem.W.nsIn K mainGlobals "range" = some none)
    (z_repr : PySem.W.nsIn K mainGlobals "repr" = some none)
    : ∃ fd : FuncData, (∀ (s : Shared) (v : Value), BindsTo s fd ⟨[v], []⟩ [("_law_script", v)]) ∧ ∀ base : Heap, K.In base → base.Ns mainGlobals mg → FnOk l.prog w K mg base CX0 3 fa fd ["_law_script"] (fun vs H Q _ => lowC K sp_law vs H Q) := by
  have e := hfa.symm.trans (PySem.W.mg_of X G a8)
  cases e
  have F0 := fun_mk (st := s_greatest_part) l0 c0 k0
  have B0 := F0.binds (ps := ["one", "other"]) fun _ _ _ _ _ _ us hl => match us, hl with | [_, _], _ => rfl
  have F1 := fun_mk (st := s_turned_by) l1 c1 k1
  have B1 := F1.binds (ps := ["one", "many"]) fun _ _ _ _ _ _ us hl => match us, hl with | [_, _], _ => rfl
  have F2 := fun_mk (st := s_meeting) l2 c2 k2
  have B2 := F2.binds (ps := ["one", "m", "other", "n"]) fun _ _ _ _ _ _ us hl => match us, hl with | [_, _, _, _], _ => rfl
  have F3 := fun_mk (st := s__law_hand) l3 c3 k3
  have B3 := F3.binds (ps := ["_law_script", "_law_k"]) fun _ _ _ _ _ _ us hl => match us, hl with | [_, _], _ => rfl
  have F4 := fun_mk (st := s__law_take) l4 c4 k4
  have B4 := F4.binds (ps := ["_law_hand_here", "_law_many"]) fun _ _ _ _ _ _ us hl => match us, hl with | [_, _], _ => rfl
  have F5 := fun_mk (st := s__law_part) l5 c5 k5
  have B5 := F5.binds (ps := ["_law_one", "_law_other"]) fun _ _ _ _ _ _ us hl => match us, hl with | [_, _], _ => rfl
  have F6 := fun_mk (st := s__law_numbers) l6 c6 k6
  have B6 := F6.binds (ps := ["_law_hand_here"]) fun _ _ _ _ _ _ us hl => match us, hl with | [_], _ => rfl
  have F7 := fun_mk (st := s__law_right) l7 c7 k7
  have B7 := F7.binds (ps := ["_law_told", "_law_one", "_law_m", "_law_other", "_law_n"]) fun _ _ _ _ _ _ us hl => match us, hl with | [_, _, _, _, _], _ => rfl
  have F8 := fun_mk (st := s_law) l8 c8 k8
  have B8 := F8.binds (ps := ["_law_script"]) fun _ _ _ _ _ _ us hl => match us, hl with | [_], _ => rfl
  have T : Txt K mg := { b_bool := PySem.W.mg_none_of X G z_bool, b_int := PySem.W.mg_none_of X G z_int, b_isinstance := PySem.W.mg_none_of X G z_isinstance, b_len := PySem.W.mg_none_of X G z_len, b_min := PySem.W.mg_none_of X G z_min, b_range := PySem.W.mg_none_of X G z_range, b_repr := PySem.W.mg_none_of X G z_repr, f_greatest_part := ⟨_, _, F0, PySem.W.mg_of X G a0, B0⟩, f_turned_by := ⟨_, _, F1, PySem.W.mg_of X G a1, B1⟩, f_meeting := ⟨_, _, F2, PySem.W.mg_of X G a2, B2⟩, f__law_hand := ⟨_, _, F3, PySem.W.mg_of X G a3, B3⟩, f__law_take := ⟨_, _, F4, PySem.W.mg_of X G a4, B4⟩, f__law_part := ⟨_, _, F5, PySem.W.mg_of X G a5, B5⟩, f__law_numbers := ⟨_, _, F6, PySem.W.mg_of X G a6, B6⟩, f__law_right := ⟨_, _, F7, PySem.W.mg_of X G a7, B7⟩, f_law := ⟨_, _, F8, PySem.W.mg_of X G a8, B8⟩ }
  refine ⟨PySem.W.fnOf "law" "law" (defArgs s_law) (defBody s_law) (defScope s_law) .none kV8 dc8 pm8 an8 cd8 ct8, fun s v => .of_eq rfl, fun base _ _ => ?_⟩
  exact Ok3.fnOk F8 B8 sc_law (fun ds S Q h => by simp only [sp_law] at h; first | (obtain ⟨_, rfl, _⟩ := h; rfl) | exact h.2) (fun cdv A outer s H E hr => dv_law T hr) rd_law
end G_k38
open PySem PySem.W PyProof.Rows
set_option maxHeartbeats 0 in
theorem PySem.Challenge.cw_windowfloor_k38_meetings_holds : PySem.Challenge.rw_windowfloor_k38_meetings.Holds := by
  w_on; o_law; k_head; (case hw => w_witness2)
  k_fill
  refine L2.walk_of (l := PySem.Challenge.rw_windowfloor_k38_meetings) (n := 63) (k := 3) (x := "_law_script") (CX := fun _ => L2.CX0) (sp := fun w => fun vs H Q _ => L3.lowC _ G_k38.sp_law vs H Q) rfl (by decide) rfl ⟨rfl, by decide, by decide⟩ (fun w h Y => PySem.W.kIn_of Y) ?F (fun _ _ a ns hl _ hS => L3.law_in hl hS fun _ => rfl) (fun _ _ _ _ _ h => h)
  case F =>
    intro w mg fa h KX G hmg
    refine' G_k38.all_mk KX G hmg ?a0 ?l0 ?c0 ?k0 ?a1 ?l1 ?c1 ?k1 ?a2 ?l2 ?c2 ?k2 ?a3 ?l3 ?c3 ?k3 ?a4 ?l4 ?c4 ?k4 ?a5 ?l5 ?c5 ?k5 ?a6 ?l6 ?c6 ?k6 ?a7 ?l7 ?c7 ?k7 ?a8 ?l8 ?c8 ?k8 ?z_bool ?z_int ?z_isinstance ?z_len ?z_min ?z_range ?z_repr
    (case a0 => k_is); (case l0 => k_is); (case c0 => k_is); (case k0 => k_is); (case a1 => k_is); (case l1 => k_is); (case c1 => k_is); (case k1 => k_is); (case a2 => k_is); (case l2 => k_is); (case c2 => k_is); (case k2 => k_is); (case a3 => k_is); (case l3 => k_is); (case c3 => k_is); (case k3 => k_is); (case a4 => k_is); (case l4 => k_is); (case c4 => k_is); (case k4 => k_is); (case a5 => k_is); (case l5 => k_is); (case c5 => k_is); (case k5 => k_is); (case a6 => k_is); (case l6 => k_is); (case c6 => k_is); (case k6 => k_is); (case a7 => k_is); (case l7 => k_is); (case c7 => k_is); (case k7 => k_is); (case a8 => k_is); (case l8 => k_is); (case c8 => k_is); (case k8 => k_is); (case z_bool => k_is); (case z_int => k_is); (case z_isinstance => k_is); (case z_len => k_is); (case z_min => k_is); (case z_range => k_is); (case z_repr => k_is)
