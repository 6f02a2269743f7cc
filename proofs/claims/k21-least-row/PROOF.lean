import PyProof.Rows.All
import Wide.All
import OpenK.AllK
import Wide.FinOn
import HandS.ForMost
import HandS.Wide
import HandS.Deep
import HandS.IsInst
import HandS.TupAny
import HandS.TupMul
import HandS.Zip
import HandS.Rev
import HandS.RevRange
import HandS.Style
import HandS.Conv
import HandS.Flow
import HandS.SortInts
import HandS.ExcIs
import HandS.ExcValue
import HandS.ExcCtx
import HandS.HotCalls
import KE.KTupSum
import KE.SortData
import KE.DataCmp
import HandS.TupSets
import HandS.RevTup
import KE.GoesMore
import KE.GoesEnum
import PyProof.ListIndexNeg
import KE.DataMinMax
import KE.KIndexOf
import HandS.More
import KE.KDictPairs
import KE.SortCalls
import HandS.TupLen
import PySem.Challenge.RW_windowfloor_k21_least_row
set_option Elab.async false
set_option linter.all false
set_option maxRecDepth 100000
set_option maxHeartbeats 4000000
/-! A layer over L2 (HandS): values as trees, a store of own lists and dicts; readings without addresses. -/
namespace L3
open PySem PySem.Spec PyProof.Rows L2

/-! ### data, dicts among them: HandS's own look (L2.Dp) with dicts of the kept heap besides -/
def datK : Key → PyData
  | .inl i => .int i
  | .inr x => .str x
mutual
inductive Dp (F : PySem.W.Frag) (G : Hp) : V → PyData → Prop
  | non : Dp F G .non .none
  | bl (c : Bool) : Dp F G (.bl c) (.bool c)
  | int (n : Int) : Dp F G (.int n) (.int n)
  | str (y : Str) : Dp F G (.str y) (.str y)
  | lst {l : Addr} {vs : List V} {es : List PyData} : SqL F G l vs → DpAll F G vs es → Dp F G (.ref l) (.list es)
  | tup {l : Addr} {vs : List V} {es : List PyData} : SqT F G l vs → DpAll F G vs es → Dp F G (.ref l) (.tuple es)
  | dct {l : Addr} {kxs : List (Key × V)} {kvs : List (PyData × PyData)} : G l = some (.dK kxs) → DpKv F G kxs kvs → Dp F G (.ref l) (.dict kvs)
inductive DpAll (F : PySem.W.Frag) (G : Hp) : List V → List PyData → Prop
  | nil : DpAll F G [] []
  | cons {v : V} {vs : List V} {e : PyData} {es : List PyData} : Dp F G v e → DpAll F G vs es → DpAll F G (v :: vs) (e :: es)
inductive DpKv (F : PySem.W.Frag) (G : Hp) : List (Key × V) → List (PyData × PyData) → Prop
  | nil : DpKv F G [] []
  | cons {k : Key} {v : V} {e : PyData} {kxs : List (Key × V)} {kvs : List (PyData × PyData)} : Dp F G v e → DpKv F G kxs kvs → DpKv F G ((k, v) :: kxs) ((datK k, e) :: kvs)
end
mutual
theorem Dp.two {F : PySem.W.Frag} {G : Hp} : ∀ (e : PyData) (v : V), e.hasDict = false → Dp F G v e → L2.Dp F G v e
  | .none, _, _, h => by cases h; exact .non
  | .bool _, _, _, h => by cases h; exact .bl _
  | .int _, _, _, h => by cases h; exact .int _
  | .str _, _, _, h => by cases h; exact .str _
  | .list es, _, n, h => by
    simp only [PyData.hasDict] at n
    cases h with
    | lst hs ha => exact .lst hs (DpAll.two es _ n ha)
  | .tuple es, _, n, h => by
    simp only [PyData.hasDict] at n
    cases h with
    | tup hs ha => exact .tup hs (DpAll.two es _ n ha)
  | .dict _, _, n, _ => by simp [PyData.hasDict] at n
theorem DpAll.two {F : PySem.W.Frag} {G : Hp} : ∀ (es : List PyData) (vs : List V), PyData.hasDictAll es = false → DpAll F G vs es → L2.DpAll F G vs es
  | [], _, _, h => by cases h; exact .nil
  | e :: es, _, n, h => by
    simp only [PyData.hasDictAll, Bool.or_eq_false_iff] at n
    cases h with
    | cons h1 h2 => exact .cons (Dp.two e _ n.1 h1) (DpAll.two es _ n.2 h2)
end
theorem Dp.sh {F : PySem.W.Frag} {G : Hp} {e : PyData} {v : V} (h : Dp F G v e) (n : SeqAt.shaped e = true) : L2.Dp F G v e := Dp.two e v (PyData.hasDict_of_canLay e (SeqAt.canLay_of_shaped n)) h
section
variable {X : Cx} {pins : List (Addr × Obj)} {σ : L2.St} {G : Hp} {s : Shared}
theorem key_reads {k : Key} {v : Value} {h : Heap} (e : keyIs k v = true) : Reads h v (datK k) [] := by
  rcases keyIs_shape e with ⟨i, t, rfl, rfl⟩ | ⟨x, t, rfl, rfl⟩
  · exact Reads.int _ _
  · exact Reads.str _ _
mutual
theorem Dp.reads (J : L2.Inv X pins σ G s) : ∀ (e : PyData) (v : V) (z : Value), Dp X.K G v e → RelV v z → ∃ ks, Reads s.heap z e ks
  | .none, _, _, h, r => by cases h; cases r; exact ⟨_, .none⟩
  | .bool c, _, _, h, r => by cases h; cases r; exact ⟨_, .bool c⟩
  | .int n, _, _, h, r => by cases h; obtain ⟨q, rfl⟩ := r; exact ⟨_, .int n q⟩
  | .str y, _, _, h, r => by cases h; obtain ⟨q, rfl⟩ := r; exact ⟨_, .str y q⟩
  | .list es, _, _, .lst hs ha, r => by
    cases r
    obtain ⟨zs, rz, ⟨ob, m, g1, g2, _, g3⟩, _⟩ := J.list hs
    obtain ⟨ks, hk⟩ := Dp.readsAll J es _ zs ha rz
    exact ⟨_, .list g1 g2 g3 hk⟩
  | .tuple es, _, _, .tup hs ha, r => by
    cases r
    obtain ⟨zs, rz, ⟨ob, g1, g2, m, g3⟩, _⟩ := J.tuple hs
    obtain ⟨ks, hk⟩ := Dp.readsAll J es _ zs ha rz
    exact ⟨_, .tuple g1 g2 g3 hk⟩
  | .dict kvs, _, _, .dct hs ha, r => by
    cases r
    obtain ⟨_, _, vs, hv, ob, es, ep, g1, g2, g3, _, hp, _⟩ := J.hok _ _ hs
    obtain ⟨as, bs, h1, h2⟩ := Dp.readsKv J kvs _ vs es.toList ha hv hp
    exact ⟨_, .dict g1 g2.1 g3 h1 h2⟩
theorem Dp.readsAll (J : L2.Inv X pins σ G s) : ∀ (es : List PyData) (vs : List V) (zs : List Value), DpAll X.K G vs es → Vals vs zs → ∃ ks, ReadsAll s.heap zs es ks
  | [], _, _, .nil, .nil => ⟨_, .nil⟩
  | e :: es, _, _, .cons h1 h2, .cons r1 r2 => by
    obtain ⟨ks, g1⟩ := Dp.reads J e _ _ h1 r1
    obtain ⟨ls, g2⟩ := Dp.readsAll J es _ _ h2 r2
    exact ⟨_, .cons g1 g2⟩
theorem Dp.readsKv (J : L2.Inv X pins σ G s) : ∀ (kvs : List (PyData × PyData)) (kxs : List (Key × V)) (vs : List (Key × Value)) (es : List DictEntry), DpKv X.K G kxs kvs → KV kxs vs → Pairs (mixKind X.prog X.w) es vs →
    ∃ as bs, ReadsAll s.heap (es.map (·.key)) (kvs.map (·.1)) as ∧ ReadsAll s.heap (es.map (·.val)) (kvs.map (·.2)) bs
  | [], _, _, _, h, r, p => by
    cases h
    cases r
    cases p
    exact ⟨_, _, .nil, .nil⟩
  | (k, d) :: kvs, _, _, _, h, r, p => by
    cases h with
    | cons h1 h2 =>
      cases r with
      | cons r1 r2 =>
        cases p with
        | cons p1 p2 p3 =>
          obtain ⟨e1, r1⟩ := r1
          obtain ⟨as, q1⟩ := Dp.reads J d _ _ h1 r1
          obtain ⟨bs, cs, q2, q3⟩ := Dp.readsKv J kvs _ _ _ h2 r2 p3
          rw [← e1] at p1
          rw [← p2] at q1
          exact ⟨_, _, .cons (key_reads p1) q2, .cons q1 q3⟩
end
end
/-! ### data, stores -/
inductive D where
  | p (d : PyData)
  | loc (n : Nat)
  | exc (c : Str) (o : Option Addr := none)
inductive O3 where
  | lst (ds : List PyData)
  | dic (kvs : List (List Key × PyData))
  | dik (kvs : List (Key × D))
  | lls (ds : List D)
  | dif (od : Obj) (kxs : List (List Key × V)) (kvs : List (List Key × PyData))
  | dkf (od : Obj) (kxs : List (Key × V)) (kvs : List (Key × D))
structure W3 where
  al : List Addr
  h : Hp
  pn : List (Addr × HO)
abbrev E3 := List (Option D)
abbrev S3 := List (Option O3)
def at3 : E3 → Nat → Option D
  | [], _ => none
  | x :: _, 0 => x
  | _ :: r, n + 1 => at3 r n
def set3 : E3 → Nat → D → E3
  | [], _, _ => []
  | _ :: r, 0, d => some d :: r
  | x :: r, n + 1, d => x :: set3 r n d
theorem at3_get : ∀ (env : E3) (i : Nat), at3 env i = (env[i]?).join
  | [], _ => rfl
  | x :: _, 0 => rfl
  | _ :: r, n + 1 => by
    rw [List.getElem?_cons_succ]
    exact at3_get r n
theorem set3_length : ∀ (env : E3) (i : Nat) (d : D), (set3 env i d).length = env.length
  | [], _, _ => rfl
  | _ :: _, 0, _ => rfl
  | _ :: r, n + 1, d => congrArg (· + 1) (set3_length r n d)
theorem at3_set : ∀ (env : E3) (i j : Nat) (d : D), at3 (set3 env i d) j = if j = i ∧ i < env.length then some d else at3 env j
  | [], i, j, d => by simp [set3, at3]
  | x :: r, 0, 0, d => by simp [set3, at3]
  | x :: r, 0, j + 1, d => by simp [set3, at3]
  | x :: r, i + 1, 0, d => by simp [set3, at3]
  | x :: r, i + 1, j + 1, d => by
    show at3 (set3 r i d) j = _
    rw [at3_set r i j d]
    simp only [List.length_cons, Nat.add_right_cancel_iff, Nat.add_lt_add_iff_right]
    rfl

/-! ### what a value stands for -/
section
variable (K : PySem.W.Frag)
/-- an error of the main module's class c -/
def RepX (h : Hp) (v : V) (c : Str) (o : Option Addr) : Prop := ∃ (a C : Addr) (φ : Heap → Prop), v = .ref a ∧ PySem.W.nsIn K mainGlobals c = some (some (.ref C)) ∧ h a = some (.ext φ) ∧
  (∀ g, φ g → ∃ oe vs, g.get? a = some oe ∧ L2N.Zn (.ref C) none oe ∧ oe.data = .fields vs) ∧ ∀ b, o = some b → b = a
def RepD (w : W3) (v : V) : D → Prop
  | .p d => Dp K w.h v d
  | .loc n => ∃ a, w.al[n]? = some a ∧ v = .ref a
  | .exc c o => RepX K w.h v c o
def under (n : Nat) : D → Prop
  | .loc m => m < n
  | _ => True
def RepDs (w : W3) : List V → List D → Prop
  | [], [] => True
  | v :: vs, d :: ds => RepD K w v d ∧ RepDs w vs ds
  | _, _ => False
def RepO (w : W3) (n : Nat) (u : HO) : O3 → Prop
  | .lst ds => ∃ xs, u = .lst xs ∧ DpAll K w.h xs ds ∧ ds.length ≤ sizeLine
  | .dic kvs => ∃ kxs, u = .dT kxs ∧ Paired (fun (p : List Key × V) (q : List Key × PyData) => p.1 = q.1 ∧ Dp K w.h p.2 q.2) kxs kvs
  | .dik kvs => ∃ kxs, u = .dK kxs ∧ Paired (fun (p : Key × V) (q : Key × D) => p.1 = q.1 ∧ RepD K w p.2 q.2 ∧ under n q.2) kxs kvs
  | .lls ds => ∃ xs, u = .lst xs ∧ Paired (fun (v : V) (d : D) => RepD K w v d ∧ under n d) xs ds ∧ ds.length ≤ sizeLine
  | .dif od kxs kvs => u = .frz od (.dT kxs) ∧ Paired (fun (p : List Key × V) (q : List Key × PyData) => p.1 = q.1 ∧ Dp K w.h p.2 q.2) kxs kvs
  | .dkf od kxs kvs => u = .frz od (.dK kxs) ∧ Paired (fun (p : Key × V) (q : Key × D) => p.1 = q.1 ∧ RepD K w p.2 q.2 ∧ under n q.2) kxs kvs
def SzO : HO → Prop
  | .lst xs => xs.length ≤ sizeLine
  | .tup xs => xs.length ≤ sizeLine
  | .frz _ (.lst xs) => xs.length ≤ sizeLine
  | .frz _ (.tup _) => False
  | .frz _ _ => False
  | _ => True
structure Ex0 (w w' : W3) : Prop where
  al : ∃ t, w'.al = w.al ++ t
  h : Same w.h w'.h
structure Ex3 (w w' : W3) : Prop extends Ex0 w w' where
  pn : w'.pn = w.pn
def NoTupO : HO → Prop
  | .tup _ => False
  | _ => True
/-- what stands apart: each once, no tuples -/
def PnOk (pn : List (Addr × HO)) : Prop := (pn.map (·.1)).Nodup ∧ ∀ p ∈ pn, NoTupO p.2
theorem PnOk.nil : PnOk [] := ⟨List.nodup_nil, fun _ h => nomatch h⟩
structure Rel3 (w : W3) (H : Hp) (S : List (Option O3)) : Prop where
  sub : Same w.h H
  sz : ∀ a u, w.h a = some u → SzO u
  len : w.al.length = S.length
  live : ∀ (n : Nat) (a : Addr) (o : O3), w.al[n]? = some a → S[n]? = some (some o) → w.h a = none ∧ ∃ u, H a = some u ∧ RepO K w n u o
  dead : ∀ (n : Nat) (a : Addr), w.al[n]? = some a → S[n]? = some none → ∃ u, w.h a = some u
  nd : w.al.Nodup
  pin : ∀ (a : Addr) (u : HO), (a, u) ∈ w.pn → H a = some u ∧ w.h a = none ∧ a ∉ w.al
  pnd : PnOk w.pn
def EnvR (w : W3) (σ : L2.St) (env : E3) : Prop := σ.length = env.length ∧ ∀ i d, at3 env i = some d → ∃ v, σ[i]? = some (some v) ∧ RepD K w v d
end

theorem Same.sqT {K : PySem.W.Frag} {H H' : Hp} {a : Addr} {xs : List V} (e : Same H H') (h : SqT K H a xs) : SqT K H' a xs := by
  rcases h with (h | ⟨o, h⟩) | h
  · exact .inl (.inl (e _ _ h))
  · exact .inl (.inr ⟨o, e _ _ h⟩)
  · exact .inr h
mutual
theorem dp_mono {K : PySem.W.Frag} {H H' : Hp} (e : Same H H') : ∀ (d : PyData) (v : V), Dp K H v d → Dp K H' v d
  | .none, _, h => by cases h; exact .non
  | .bool b, _, h => by cases h; exact .bl b
  | .int i, _, h => by cases h; exact .int i
  | .str x, _, h => by cases h; exact .str x
  | .list ds, _, h => by
    cases h with
    | lst hs ha => exact .lst (L2.Same.seq e hs) (dpAll_mono e ds _ ha)
  | .tuple ds, _, h => by
    cases h with
    | tup hs ha => exact .tup (Same.sqT e hs) (dpAll_mono e ds _ ha)
  | .dict kvs, _, h => by
    cases h with
    | dct hs ha => exact .dct (e _ _ hs) (dpKv_mono e kvs _ ha)
theorem dpAll_mono {K : PySem.W.Frag} {H H' : Hp} (e : Same H H') : ∀ (ds : List PyData) (vs : List V), DpAll K H vs ds → DpAll K H' vs ds
  | [], _, h => by cases h; exact .nil
  | d :: ds, _, h => by
    cases h with
    | cons h1 h2 => exact .cons (dp_mono e d _ h1) (dpAll_mono e ds _ h2)
theorem dpKv_mono {K : PySem.W.Frag} {H H' : Hp} (e : Same H H') : ∀ (kvs : List (PyData × PyData)) (kxs : List (Key × V)), DpKv K H kxs kvs → DpKv K H' kxs kvs
  | [], _, h => by cases h; exact .nil
  | (k, d) :: kvs, _, h => by
    cases h with
    | cons h1 h2 => exact .cons (dp_mono e d _ h1) (dpKv_mono e kvs _ h2)
end
section
variable {K : PySem.W.Frag} {w w' w'' : W3} {H : Hp} {S : S3} {σ : L2.St} {env : E3} {v : V} {d : D}
theorem DpAll.length : ∀ {vs : List V} {ds : List PyData} {h : Hp}, DpAll K h vs ds → vs.length = ds.length
  | _, _, _, .nil => rfl
  | _, _, _, .cons _ t => congrArg (· + 1) (DpAll.length t)
theorem DpAll.get : ∀ {vs : List V} {ds : List PyData} {h : Hp} {i : Nat} {x : PyData}, DpAll K h vs ds → ds[i]? = some x → ∃ v, vs[i]? = some v ∧ Dp K h v x
  | _, _, _, _, _, .nil, e => by simp at e
  | _, _, _, 0, _, .cons r _, e => by
    simp at e
    subst e
    exact ⟨_, rfl, r⟩
  | _, _, _, i + 1, x, .cons _ t, e => by
    obtain ⟨v, h1, h2⟩ := DpAll.get (i := i) (x := x) t (by simpa using e)
    exact ⟨v, by simpa using h1, h2⟩
theorem DpAll.getV : ∀ {vs : List V} {ds : List PyData} {h : Hp} {i : Nat} {v : V}, DpAll K h vs ds → vs[i]? = some v → ∃ x, ds[i]? = some x ∧ Dp K h v x
  | _, _, _, _, _, .nil, e => by simp at e
  | _, _, _, 0, _, .cons r _, e => by
    simp at e
    subst e
    exact ⟨_, rfl, r⟩
  | _, _, _, i + 1, v, .cons _ t, e => by
    obtain ⟨x, h1, h2⟩ := DpAll.getV (i := i) (v := v) t (by simpa using e)
    exact ⟨x, by simpa using h1, h2⟩
theorem DpAll.append : ∀ {vs us : List V} {ds es : List PyData} {h : Hp}, DpAll K h vs ds → DpAll K h us es → DpAll K h (vs ++ us) (ds ++ es)
  | _, _, _, _, _, .nil, s => s
  | _, _, _, _, _, .cons r t, s => .cons r (DpAll.append t s)
theorem DpAll.take : ∀ {vs : List V} {ds : List PyData} {h : Hp} (n : Nat), DpAll K h vs ds → DpAll K h (vs.take n) (ds.take n)
  | _, _, _, 0, _ => .nil
  | _, _, _, _ + 1, .nil => .nil
  | _, _, _, n + 1, .cons r t => .cons r (DpAll.take n t)
theorem DpAll.drop : ∀ {vs : List V} {ds : List PyData} {h : Hp} (n : Nat), DpAll K h vs ds → DpAll K h (vs.drop n) (ds.drop n)
  | _, _, _, 0, r => r
  | _, _, _, _ + 1, .nil => .nil
  | _, _, _, n + 1, .cons _ t => DpAll.drop n t
theorem DpAll.set {x : PyData} {v : V} {h : Hp} (r : Dp K h v x) : ∀ {vs : List V} {ds : List PyData} (i : Nat), DpAll K h vs ds → DpAll K h (vs.set i v) (ds.set i x)
  | _, _, _, .nil => .nil
  | _, _, 0, .cons _ t => .cons r t
  | _, _, i + 1, .cons q t => .cons q (DpAll.set r i t)
theorem DpAll.eraseIdx {h : Hp} : ∀ {vs : List V} {ds : List PyData} (i : Nat), DpAll K h vs ds → DpAll K h (vs.eraseIdx i) (ds.eraseIdx i)
  | _, _, _, .nil => .nil
  | _, _, 0, .cons _ t => t
  | _, _, i + 1, .cons q t => .cons q (DpAll.eraseIdx i t)
theorem DpAll.replicate {x : PyData} {v : V} {h : Hp} (r : Dp K h v x) : ∀ n : Nat, DpAll K h (List.replicate n v) (List.replicate n x)
  | 0 => .nil
  | n + 1 => .cons r (DpAll.replicate r n)
theorem DpAll.flatten {h : Hp} {vs : List V} {ds : List PyData} (r : DpAll K h vs ds) : ∀ n : Nat, DpAll K h (List.replicate n vs).flatten (List.replicate n ds).flatten
  | 0 => .nil
  | n + 1 => by
    rw [List.replicate_succ, List.replicate_succ, List.flatten_cons, List.flatten_cons]
    exact DpAll.append r (DpAll.flatten r n)
theorem DpAll.reverse {h : Hp} : ∀ {vs : List V} {ds : List PyData}, DpAll K h vs ds → DpAll K h vs.reverse ds.reverse
  | _, _, .nil => .nil
  | _, _, .cons r t => by
    rw [List.reverse_cons, List.reverse_cons]
    exact DpAll.append (DpAll.reverse t) (.cons r .nil)

theorem Ex3.refl (w : W3) : Ex3 w w := ⟨⟨⟨[], by simp⟩, Same.refl _⟩, rfl⟩
theorem Ex0.trans (a : Ex0 w w') (b : Ex0 w' w'') : Ex0 w w'' := by
  obtain ⟨t, h1⟩ := a.al
  obtain ⟨u, h2⟩ := b.al
  exact ⟨⟨t ++ u, by rw [h2, h1, List.append_assoc]⟩, a.h.trans b.h⟩
theorem Ex3.trans (a : Ex3 w w') (b : Ex3 w' w'') : Ex3 w w'' := ⟨a.toEx0.trans b.toEx0, b.pn.trans a.pn⟩
theorem Ex0.get (e : Ex0 w w') {n : Nat} {a : Addr} (h : w.al[n]? = some a) : w'.al[n]? = some a := by
  obtain ⟨t, h1⟩ := e.al
  rw [h1, List.getElem?_append_left (List.getElem?_eq_some_iff.mp h).1]
  exact h
theorem RepX.mono {h h' : Hp} {c : Str} {o : Option Addr} (e : Same h h') (x : RepX K h v c o) : RepX K h' v c o := by
  obtain ⟨a, C, φ, h1, h2, h3, h4, h5⟩ := x
  exact ⟨a, C, φ, h1, h2, e _ _ h3, h4, h5⟩
theorem RepD.mono0 (e : Ex0 w w') (h : RepD K w v d) : RepD K w' v d := by
  cases d with
  | exc c => exact RepX.mono e.h h
  | p d => exact dp_mono e.h d v h
  | loc n =>
    obtain ⟨a, h1, h2⟩ := h
    exact ⟨a, e.get h1, h2⟩
theorem RepD.mono (e : Ex3 w w') (h : RepD K w v d) : RepD K w' v d := h.mono0 e.toEx0
theorem RepDs.mono (e : Ex3 w w') : ∀ {vs : List V} {ds : List D}, RepDs K w vs ds → RepDs K w' vs ds
  | [], [], _ => trivial
  | _ :: _, _ :: _, h => ⟨h.1.mono e, RepDs.mono e h.2⟩
  | [], _ :: _, h => h.elim
  | _ :: _, [], h => h.elim
theorem RepDs.length : ∀ {vs : List V} {ds : List D}, RepDs K w vs ds → vs.length = ds.length
  | [], [], _ => rfl
  | _ :: _, _ :: _, h => congrArg (· + 1) (RepDs.length h.2)
  | [], _ :: _, h => h.elim
  | _ :: _, [], h => h.elim
theorem EnvR.mono0 (e : Ex0 w w') (h : EnvR K w σ env) : EnvR K w' σ env := ⟨h.1, fun i d q => by
  obtain ⟨v, h1, h2⟩ := h.2 i d q
  exact ⟨v, h1, h2.mono0 e⟩⟩
theorem EnvR.mono (e : Ex3 w w') (h : EnvR K w σ env) : EnvR K w' σ env := h.mono0 e.toEx0
theorem EnvR.set (h : EnvR K w σ env) (i : Nat) (r : RepD K w v d) : EnvR K w (σ.set i (some v)) (set3 env i d) := by
  refine ⟨by rw [List.length_set, set3_length]; exact h.1, fun j e q => ?_⟩
  rw [at3_set] at q
  by_cases hj : j = i ∧ i < env.length
  · rw [if_pos hj] at q
    cases q
    obtain ⟨rfl, hi⟩ := hj
    exact ⟨v, by rw [List.getElem?_set_self (by rw [h.1]; exact hi)], r⟩
  · rw [if_neg hj] at q
    obtain ⟨u, h1, h2⟩ := h.2 j e q
    refine ⟨u, ?_, h2⟩
    by_cases e : i = j
    · subst e
      have : i < σ.length := (List.getElem?_eq_some_iff.mp h1).1
      exact absurd ⟨rfl, by rw [← h.1]; exact this⟩ hj
    · rw [List.getElem?_set_ne e]
      exact h1
theorem Rel3.szL (r : Rel3 K w H S) {a : Addr} {xs : List V} (h : SqL K w.h a xs) : xs.length ≤ sizeLine := by
  rcases h with (h | ⟨o, h⟩) | ⟨_, its, _, _, _, _, _, hz, rv⟩
  · exact r.sz a _ h
  · exact r.sz a _ h
  · have := Vals.length rv
    rw [this]
    simpa using hz
theorem Rel3.szT (r : Rel3 K w H S) {a : Addr} {xs : List V} (h : SqT K w.h a xs) : xs.length ≤ sizeLine := by
  rcases h with (h | ⟨o, h⟩) | ⟨_, its, _, _, _, _, hz, rv⟩
  · exact r.sz a _ h
  · exact (r.sz a _ h).elim
  · have := Vals.length rv
    rw [this]
    simpa using hz
theorem RepO.mono {n : Nat} {u : HO} {o : O3} (e : Ex0 w w') (h : RepO K w n u o) : RepO K w' n u o := by
  cases o with
  | lst ds =>
    obtain ⟨xs, h4, h5, h6⟩ := h
    exact ⟨xs, h4, dpAll_mono e.h ds xs h5, h6⟩
  | dic kvs =>
    obtain ⟨kxs, h4, h5⟩ := h
    exact ⟨kxs, h4, Paired.mapP h5 fun p q z => ⟨z.1, dp_mono e.h _ _ z.2⟩⟩
  | dik kvs =>
    obtain ⟨kxs, h4, h5⟩ := h
    exact ⟨kxs, h4, Paired.mapP h5 fun p q z => ⟨z.1, z.2.1.mono0 e, z.2.2⟩⟩
  | lls ds =>
    obtain ⟨xs, h4, h5, h6⟩ := h
    exact ⟨xs, h4, Paired.mapP h5 fun v d z => ⟨z.1.mono0 e, z.2⟩, h6⟩
  | dif od kxs kvs =>
    obtain ⟨h4, h5⟩ := h
    exact ⟨h4, Paired.mapP h5 fun p q z => ⟨z.1, dp_mono e.h _ _ z.2⟩⟩
  | dkf od kxs kvs =>
    obtain ⟨h4, h5⟩ := h
    exact ⟨h4, Paired.mapP h5 fun p q z => ⟨z.1, z.2.1.mono0 e, z.2.2⟩⟩
theorem Rel3.notal (r : Rel3 K w H S) {a : Addr} (hn : H a = none) : ∀ (n : Nat) (b : Addr), w.al[n]? = some b → b ≠ a := fun n b e z => by
  subst z
  have hw : w.h b = none := r.sub.free hn
  have hl : n < S.length := by rw [← r.len]; exact (List.getElem?_eq_some_iff.mp e).1
  cases q : S[n]? with
  | none => exact absurd hl (by rw [List.getElem?_eq_none_iff] at q; omega)
  | some o =>
    cases o with
    | none =>
      obtain ⟨u', h1⟩ := r.dead n b e q
      rw [hw] at h1
      cases h1
    | some o =>
      obtain ⟨_, u', h1, _⟩ := r.live n b o e q
      rw [hn] at h1
      cases h1
/-- a new object that will never change -/
theorem Rel3.frz (r : Rel3 K w H S) {a : Addr} {u : HO} (hn : H a = none) (hz : SzO u) : Rel3 K ⟨w.al, upd w.h a u, w.pn⟩ (upd H a u) S ∧ Ex3 w ⟨w.al, upd w.h a u, w.pn⟩ := by
  have hw : w.h a = none := r.sub.free hn
  have sm : Same w.h (upd w.h a u) := fun b o e => by
    rw [upd_ne (ne_of_none e hw)]
    exact e
  have nal := r.notal hn
  have ex : Ex3 w ⟨w.al, upd w.h a u, w.pn⟩ := ⟨⟨⟨[], by simp⟩, sm⟩, rfl⟩
  refine ⟨⟨fun b o e => ?_, fun b o e => ?_, r.len, fun n b o e q => ?_, fun n b e q => ?_, r.nd, fun b o hb => ?_, r.pnd⟩, ex⟩
  · show upd H a u b = _
    by_cases hb : b = a
    · subst hb
      have e' : upd w.h b u b = some o := e
      rw [upd_same] at e' ⊢
      exact e'
    · have e' : upd w.h a u b = some o := e
      rw [upd_ne hb] at e' ⊢
      exact r.sub b o e'
  · have e' : upd w.h a u b = some o := e
    by_cases hb : b = a
    · subst hb
      rw [upd_same] at e'
      cases e'
      exact hz
    · rw [upd_ne hb] at e'
      exact r.sz b o e'
  · obtain ⟨h1, x, h2, h3⟩ := r.live n b o e q
    have nb := nal n b e
    exact ⟨by show upd w.h a u b = none; rw [upd_ne nb]; exact h1, x, by rw [upd_ne nb]; exact h2, h3.mono ex.toEx0⟩
  · obtain ⟨x, h1⟩ := r.dead n b e q
    exact ⟨x, sm b x h1⟩
  · obtain ⟨h1, h2, h3⟩ := r.pin b o hb
    have nb : b ≠ a := fun z => by rw [z, hn] at h1; cases h1
    exact ⟨by rw [upd_ne nb]; exact h1, by show upd w.h a u b = none; rw [upd_ne nb]; exact h2, h3⟩
/-- a new object of the store -/
theorem Rel3.push (r : Rel3 K w H S) {a : Addr} {u : HO} {o : O3} (hn : H a = none) (hr : RepO K w S.length u o) : Rel3 K ⟨w.al ++ [a], w.h, w.pn⟩ (upd H a u) (S ++ [some o]) ∧ Ex3 w ⟨w.al ++ [a], w.h, w.pn⟩ := by
  have hw : w.h a = none := r.sub.free hn
  have nal := r.notal hn
  have ex : Ex3 w ⟨w.al ++ [a], w.h, w.pn⟩ := ⟨⟨⟨[a], rfl⟩, Same.refl _⟩, rfl⟩
  refine ⟨⟨fun b x e => ?_, r.sz, by simp [r.len], fun n b x e q => ?_, fun n b e q => ?_, ?_, fun b o hb => ?_, r.pnd⟩, ex⟩
  · have e' : w.h b = some x := e
    rw [upd_ne (ne_of_none e' hw)]
    exact r.sub b x e'
  · have e' : (w.al ++ [a])[n]? = some b := e
    by_cases hl : n < w.al.length
    · rw [List.getElem?_append_left hl] at e'
      rw [List.getElem?_append_left (by rw [← r.len]; exact hl)] at q
      obtain ⟨h1, y, h2, h3⟩ := r.live n b x e' q
      exact ⟨h1, y, by rw [upd_ne (nal n b e')]; exact h2, h3.mono ex.toEx0⟩
    · rw [List.getElem?_append_right (by omega)] at e'
      rw [List.getElem?_append_right (by rw [← r.len]; omega)] at q
      have hk : n - w.al.length = 0 := by
        have := (List.getElem?_eq_some_iff.mp e').1
        simp at this
        omega
      rw [hk] at e'
      rw [← r.len, hk] at q
      simp at e' q
      subst e' q
      have hnn : n = S.length := by rw [r.len] at hk hl; omega
      exact ⟨hw, u, upd_same, hnn ▸ hr.mono ex.toEx0⟩
  · have e' : (w.al ++ [a])[n]? = some b := e
    by_cases hl : n < w.al.length
    · rw [List.getElem?_append_left hl] at e'
      rw [List.getElem?_append_left (by rw [← r.len]; exact hl)] at q
      exact r.dead n b e' q
    · rw [List.getElem?_append_right (by rw [← r.len]; omega)] at q
      have hk : n - S.length = 0 := by
        have := (List.getElem?_eq_some_iff.mp q).1
        simp at this
        omega
      rw [hk] at q
      simp at q
  · rw [List.nodup_append]
    refine ⟨r.nd, by simp, fun x hx y hy => ?_⟩
    simp at hy
    subst hy
    obtain ⟨n, hn'⟩ := List.getElem?_of_mem hx
    exact nal n x hn'
  · obtain ⟨h1, h2, h3⟩ := r.pin b o hb
    have nb : b ≠ a := fun z => by rw [z, hn] at h1; cases h1
    exact ⟨by rw [upd_ne nb]; exact h1, h2, by simp only [List.mem_append, List.mem_singleton, not_or]; exact ⟨h3, nb⟩⟩
/-- an object of the store is changed -/
theorem Rel3.put (r : Rel3 K w H S) {n : Nat} {a : Addr} {u : HO} {o o' : O3} (ha : w.al[n]? = some a) (hs : S[n]? = some (some o)) (hr : RepO K w n u o') : Rel3 K w (upd H a u) (S.set n (some o')) := by
  obtain ⟨hw, _⟩ := r.live n a o ha hs
  have hlen : n < S.length := (List.getElem?_eq_some_iff.mp hs).1
  have other : ∀ m b, w.al[m]? = some b → m ≠ n → b ≠ a := fun m b e hm z => by
    subst z
    obtain ⟨h1, e1⟩ := List.getElem?_eq_some_iff.mp e
    obtain ⟨h2, e2⟩ := List.getElem?_eq_some_iff.mp ha
    exact hm ((List.getElem_inj r.nd).mp (e1.trans e2.symm))
  refine ⟨fun b x e => ?_, r.sz, by simp [r.len], fun m b x e q => ?_, fun m b e q => ?_, r.nd, fun b o hb => ?_, r.pnd⟩
  rotate_right
  · obtain ⟨h1, h2, h3⟩ := r.pin b o hb
    have nb : b ≠ a := fun z => h3 (by rw [z]; exact List.mem_of_getElem? ha)
    exact ⟨by rw [upd_ne nb]; exact h1, h2, h3⟩
  · rw [upd_ne (ne_of_none e hw)]
    exact r.sub b x e
  · by_cases hm : m = n
    · subst hm
      rw [List.getElem?_set_self hlen] at q
      have e1 : b = a := Option.some.inj (e.symm.trans ha)
      cases q
      subst e1
      exact ⟨hw, u, upd_same, hr⟩
    · rw [List.getElem?_set_ne (Ne.symm hm)] at q
      obtain ⟨h1, y, h2, h3⟩ := r.live m b x e q
      exact ⟨h1, y, by rw [upd_ne (other m b e hm)]; exact h2, h3⟩
  · by_cases hm : m = n
    · subst hm
      rw [List.getElem?_set_self hlen] at q
      cases q
    · rw [List.getElem?_set_ne (Ne.symm hm)] at q
      exact r.dead m b e q
/-- an object of the store is said to change no more -/
theorem Rel3.freeze (r : Rel3 K w H S) {n : Nat} {a : Addr} {ds : List PyData} (ha : w.al[n]? = some a) (hs : S[n]? = some (some (.lst ds))) :
    ∃ u, Rel3 K ⟨w.al, upd w.h a u, w.pn⟩ H (S.set n none) ∧ Ex3 w ⟨w.al, upd w.h a u, w.pn⟩ ∧ Dp K (upd w.h a u) (.ref a) (.list ds) := by
  obtain ⟨hw, u, hu, xs, rfl, hd, hz⟩ := r.live n a _ ha hs
  have hlen : n < S.length := (List.getElem?_eq_some_iff.mp hs).1
  have sm : Same w.h (upd w.h a (.lst xs)) := fun b o e => by
    rw [upd_ne (ne_of_none e hw)]
    exact e
  have ex : Ex3 w ⟨w.al, upd w.h a (.lst xs), w.pn⟩ := ⟨⟨⟨[], by simp⟩, sm⟩, rfl⟩
  have other : ∀ m b, w.al[m]? = some b → m ≠ n → b ≠ a := fun m b e hm z => by
    subst z
    obtain ⟨h1, e1⟩ := List.getElem?_eq_some_iff.mp e
    obtain ⟨h2, e2⟩ := List.getElem?_eq_some_iff.mp ha
    exact hm ((List.getElem_inj r.nd).mp (e1.trans e2.symm))
  refine ⟨.lst xs, ⟨fun b x e => ?_, fun b x e => ?_, by simp [r.len], fun m b x e q => ?_, fun m b e q => ?_, r.nd, fun b o hb => ?_, r.pnd⟩, ex, .lst (.inl (.inl upd_same)) (dpAll_mono sm ds xs hd)⟩
  · have e' : upd w.h a (.lst xs) b = some x := e
    by_cases hb : b = a
    · subst hb
      rw [upd_same] at e'
      cases e'
      exact hu
    · rw [upd_ne hb] at e'
      exact r.sub b x e'
  · have e' : upd w.h a (.lst xs) b = some x := e
    by_cases hb : b = a
    · subst hb
      rw [upd_same] at e'
      cases e'
      show xs.length ≤ sizeLine
      rw [DpAll.length hd]
      exact hz
    · rw [upd_ne hb] at e'
      exact r.sz b x e'
  · by_cases hm : m = n
    · subst hm
      rw [List.getElem?_set_self hlen] at q
      cases q
    · rw [List.getElem?_set_ne (Ne.symm hm)] at q
      obtain ⟨h1, y, h2, h3⟩ := r.live m b x e q
      exact ⟨by show upd w.h a (.lst xs) b = none; rw [upd_ne (other m b e hm)]; exact h1, y, h2, h3.mono ex.toEx0⟩
  · by_cases hm : m = n
    · subst hm
      have : b = a := Option.some.inj (e.symm.trans ha)
      subst this
      exact ⟨_, upd_same⟩
    · rw [List.getElem?_set_ne (Ne.symm hm)] at q
      obtain ⟨y, h1⟩ := r.dead m b e q
      exact ⟨y, sm b y h1⟩
  · obtain ⟨h1, h2, h3⟩ := r.pin b o hb
    have nb : b ≠ a := fun z => h3 (by rw [z]; exact List.mem_of_getElem? ha)
    exact ⟨h1, by show upd w.h a (.lst xs) b = none; rw [upd_ne nb]; exact h2, h3⟩
/-- the last objects of the store are forgotten -/
theorem Rel3.shrink (r : Rel3 K w H S) (L : Nat) : Rel3 K ⟨w.al.take L, w.h, w.pn⟩ H (S.take L) := by
  refine ⟨r.sub, r.sz, by simp [r.len], fun n a o e q => ?_, fun n a e q => ?_, r.nd.sublist (List.take_sublist _ _), fun b o hb => ?_, r.pnd⟩
  rotate_right
  · obtain ⟨h1, h2, h3⟩ := r.pin b o hb
    exact ⟨h1, h2, fun z => h3 (List.mem_of_mem_take z)⟩
  · have e' : (w.al.take L)[n]? = some a := e
    have hn : n < L := by
      have := (List.getElem?_eq_some_iff.mp e').1
      rw [List.length_take] at this
      omega
    rw [List.getElem?_take_of_lt hn] at e' q
    obtain ⟨h1, u, h2, h3⟩ := r.live n a o e' q
    refine ⟨h1, u, h2, ?_⟩
    cases o with
    | lst ds => exact h3
    | dic kvs => exact h3
    | dif od kxs kvs => exact h3
    | dik kvs =>
      obtain ⟨kxs, h4, h5⟩ := h3
      refine ⟨kxs, h4, Paired.mapP h5 fun p q z => ⟨z.1, ?_, z.2.2⟩⟩
      obtain ⟨_, z1, z2⟩ := z
      cases hq : q.2 with
      | p d => rw [hq] at z1; exact z1
      | exc c => rw [hq] at z1; exact z1
      | loc m =>
        rw [hq] at z1 z2
        obtain ⟨b, g1, g2⟩ := z1
        have z2' : m < n := z2
        exact ⟨b, by show (w.al.take L)[m]? = _; rw [List.getElem?_take_of_lt (by omega)]; exact g1, g2⟩
    | dkf od kxs kvs =>
      obtain ⟨h4, h5⟩ := h3
      refine ⟨h4, Paired.mapP h5 fun p q z => ⟨z.1, ?_, z.2.2⟩⟩
      obtain ⟨_, z1, z2⟩ := z
      cases hq : q.2 with
      | p d => rw [hq] at z1; exact z1
      | exc c => rw [hq] at z1; exact z1
      | loc m =>
        rw [hq] at z1 z2
        obtain ⟨b, g1, g2⟩ := z1
        have z2' : m < n := z2
        exact ⟨b, by show (w.al.take L)[m]? = _; rw [List.getElem?_take_of_lt (by omega)]; exact g1, g2⟩
    | lls ds =>
      obtain ⟨xs, h4, h5, h6⟩ := h3
      refine ⟨xs, h4, Paired.mapP h5 fun v d z => ⟨?_, z.2⟩, h6⟩
      obtain ⟨z1, z2⟩ := z
      cases d with
      | p d => exact z1
      | exc c => exact z1
      | loc m =>
        obtain ⟨b, g1, g2⟩ := z1
        have z2' : m < n := z2
        exact ⟨b, by show (w.al.take L)[m]? = _; rw [List.getElem?_take_of_lt (by omega)]; exact g1, g2⟩
  · have e' : (w.al.take L)[n]? = some a := e
    have hn : n < L := by
      have := (List.getElem?_eq_some_iff.mp e').1
      rw [List.length_take] at this
      omega
    rw [List.getElem?_take_of_lt hn] at e' q
    exact r.dead n a e' q
/-- a new object that stands apart, as it is -/
theorem Rel3.pinNew (r : Rel3 K w H S) {a : Addr} {u : HO} (hn : H a = none) (hu : NoTupO u := by trivial) : Rel3 K ⟨w.al, w.h, (a, u) :: w.pn⟩ (upd H a u) S := by
  have hw : w.h a = none := r.sub.free hn
  have nal := r.notal hn
  refine ⟨fun b x e => ?_, r.sz, r.len, fun n b x e q => ?_, r.dead, r.nd, fun b o hb => ?_, ?_⟩
  · rw [upd_ne (ne_of_none e hw)]
    exact r.sub b x e
  · obtain ⟨h1, y, h2, h3⟩ := r.live n b x e q
    exact ⟨h1, y, by rw [upd_ne (nal n b e)]; exact h2, h3.mono ⟨⟨[], by simp⟩, Same.refl _⟩⟩
  · rcases List.mem_cons.mp hb with e | hb
    · cases e
      refine ⟨upd_same, hw, fun z => ?_⟩
      obtain ⟨n, h⟩ := List.getElem?_of_mem z
      exact nal n _ h rfl
    · obtain ⟨h1, h2, h3⟩ := r.pin b o hb
      have nb : b ≠ a := fun z => by rw [z, hn] at h1; cases h1
      exact ⟨by rw [upd_ne nb]; exact h1, h2, h3⟩
  · refine ⟨?_, fun p hp => (List.mem_cons.mp hp).elim (fun e => by subst e; exact hu) (r.pnd.2 p)⟩
    show (a :: w.pn.map (·.1)).Nodup
    rw [List.nodup_cons]
    refine ⟨fun z => ?_, r.pnd.1⟩
    obtain ⟨p, hp, e⟩ := List.mem_map.mp z
    have := (r.pin p.1 p.2 hp).1
    rw [e, hn] at this
    cases this
/-- what stands apart is written -/
theorem Rel3.repin {al : List Addr} {h : Hp} {a : Addr} {u u' : HO} {pn : List (Addr × HO)} (r : Rel3 K ⟨al, h, (a, u) :: pn⟩ H S) (hu : NoTupO u' := by trivial) : Rel3 K ⟨al, h, (a, u') :: pn⟩ (upd H a u') S := by
  obtain ⟨h1, h2, h3⟩ := r.pin a u List.mem_cons_self
  have nd := List.nodup_cons.mp (show (a :: pn.map (·.1)).Nodup from r.pnd.1)
  refine ⟨fun b x e => ?_, r.sz, r.len, fun n b x e q => ?_, r.dead, r.nd, fun b o hb => ?_, ?_⟩
  · rw [upd_ne (ne_of_none e h2)]
    exact r.sub b x e
  · obtain ⟨g1, y, g2, g3⟩ := r.live n b x e q
    have nb : b ≠ a := fun z => h3 (by rw [← z]; exact List.mem_of_getElem? e)
    exact ⟨g1, y, by rw [upd_ne nb]; exact g2, g3.mono ⟨⟨[], by simp⟩, Same.refl _⟩⟩
  · rcases List.mem_cons.mp hb with e | hb
    · cases e
      exact ⟨upd_same, h2, h3⟩
    · obtain ⟨g1, g2, g3⟩ := r.pin b o (List.mem_cons_of_mem _ hb)
      have nb : b ≠ a := fun z => nd.1 (by rw [← z]; exact List.mem_map_of_mem (f := (·.1)) hb)
      exact ⟨by rw [upd_ne nb]; exact g1, g2, g3⟩
  · exact ⟨r.pnd.1, fun p hp => (List.mem_cons.mp hp).elim (fun e => by subst e; exact hu) fun z => r.pnd.2 p (List.mem_cons_of_mem _ z)⟩
/-- the heap without an address -/
def del (H : Hp) (a : Addr) : Hp := fun b => if b = a then none else H b
theorem Rel3.unpin {al : List Addr} {h : Hp} {a : Addr} {u : HO} {pn : List (Addr × HO)} (r : Rel3 K ⟨al, h, (a, u) :: pn⟩ H S) : Rel3 K ⟨al, h, pn⟩ (del H a) S ∧ del H a a = none ∧ upd (del H a) a u = H := by
  obtain ⟨h1, h2, h3⟩ := r.pin a u List.mem_cons_self
  have nd := List.nodup_cons.mp (show (a :: pn.map (·.1)).Nodup from r.pnd.1)
  have dn : ∀ b, b ≠ a → del H a b = H b := fun b hb => by unfold del; rw [if_neg hb]
  refine ⟨⟨fun b x e => ?_, r.sz, r.len, fun n b x e q => ?_, r.dead, r.nd, fun b o hb => ?_, ⟨nd.2, fun p hp => r.pnd.2 p (List.mem_cons_of_mem _ hp)⟩⟩, by unfold del; rw [if_pos rfl], ?_⟩
  · rw [dn b (ne_of_none e h2)]
    exact r.sub b x e
  · obtain ⟨g1, y, g2, g3⟩ := r.live n b x e q
    have nb : b ≠ a := fun z => h3 (by rw [← z]; exact List.mem_of_getElem? e)
    exact ⟨g1, y, by rw [dn b nb]; exact g2, g3.mono ⟨⟨[], by simp⟩, Same.refl _⟩⟩
  · obtain ⟨g1, g2, g3⟩ := r.pin b o (List.mem_cons_of_mem _ hb)
    have nb : b ≠ a := fun z => nd.1 (by rw [← z]; exact List.mem_map_of_mem (f := (·.1)) hb)
    exact ⟨by rw [dn b nb]; exact g1, g2, g3⟩
  · funext b
    by_cases hb : b = a
    · subst hb
      rw [upd_same, h1]
    · rw [upd_ne hb, dn b hb]
end
end L3

namespace L3
open PySem PySem.Spec PyProof.Rows L2
/-! ### readings over trees and a store -/
abbrev K3 := D → S3 → Prop
abbrev TE3 := E3 → S3 → K3 → Prop
abbrev TT3 := E3 → S3 → (Bool → S3 → Prop) → Prop
abbrev TA3 := E3 → S3 → (List D → S3 → Prop) → Prop
abbrev R3 := D → D → S3 → K3 → Prop
abbrev U3 := D → S3 → K3 → Prop
abbrev C3 := List D → S3 → K3 → Prop
structure N3 where
  nx : E3 → S3 → Prop
  rt : K3
  bk : E3 → S3 → Prop := fun _ _ => False
  ct : E3 → S3 → Prop := fun _ _ => False
abbrev TS3 := N3 → E3 → S3 → Prop
abbrev TG3 := D → E3 → S3 → (E3 → S3 → Prop) → Prop
abbrev TGs3 := List PyData → E3 → S3 → (E3 → S3 → Prop) → Prop
abbrev TI3 := E3 → S3 → (List PyData → (S3 → Prop) → S3 → Prop) → Prop

section
variable (K : PySem.W.Frag)
/-- what is wanted behind, by trees; by values -/
def EndE (w : W3) (Q : K3) (R : VK) : Prop := ∀ w' v d H' S', Ex3 w w' → Rel3 K w' H' S' → RepD K w' v d → Q d S' → R v H'
def EndT (w : W3) (Q : Bool → S3 → Prop) (R : Bool → Hp → Prop) : Prop := ∀ w' b H' S', Ex3 w w' → Rel3 K w' H' S' → Q b S' → R b H'
def EndA (w : W3) (Q : List D → S3 → Prop) (R : List V → Hp → Prop) : Prop := ∀ w' vs ds H' S', Ex3 w w' → Rel3 K w' H' S' → RepDs K w' vs ds → Q ds S' → R vs H'
def EndN (w : W3) (Q : E3 → S3 → Prop) (R : L2.St → Hp → Prop) : Prop := ∀ w' σ' H' env' S', Ex3 w w' → Rel3 K w' H' S' → EnvR K w' σ' env' → Q env' S' → R σ' H'
structure EndS (w : W3) (D3 : N3) (D2 : Ends) : Prop where
  nx : EndN K w D3.nx D2.nx
  rt : EndE K w D3.rt D2.rt
  bk : EndN K w D3.bk D2.bk
  ct : EndN K w D3.ct D2.ct
def low (t : TE3) : TE := fun σ H R => ∃ w env S Q, Rel3 K w H S ∧ EnvR K w σ env ∧ t env S Q ∧ EndE K w Q R
def lowT (t : TT3) : TT := fun σ H R => ∃ w env S Q, Rel3 K w H S ∧ EnvR K w σ env ∧ t env S Q ∧ EndT K w Q R
def lowA (t : TA3) : TA := fun σ H R => ∃ w env S Q, Rel3 K w H S ∧ EnvR K w σ env ∧ t env S Q ∧ EndA K w Q R
def lowS (t : TS3) : TS := fun D2 σ H => ∃ w env S D3, Rel3 K w H S ∧ EnvR K w σ env ∧ t D3 env S ∧ EndS K w D3 D2
def lowG (t : TG3) : TG := fun v σ H R => ∃ w env S d Q, Rel3 K w H S ∧ EnvR K w σ env ∧ RepD K w v d ∧ t d env S Q ∧ EndN K w Q R
def lowGs (t : TGs3) : TGs := fun vs σ H R => ∃ w env S ds Q, Rel3 K w H S ∧ EnvR K w σ env ∧ DpAll K w.h vs ds ∧ t ds env S Q ∧ EndN K w Q R
def lowR (r : R3) : R2 := fun x y H R => ∃ w S d e Q, Rel3 K w H S ∧ RepD K w x d ∧ RepD K w y e ∧ r d e S Q ∧ EndE K w Q R
def lowU (r : U3) : V → Hp → VK → Prop := fun x H R => ∃ w S d Q, Rel3 K w H S ∧ RepD K w x d ∧ r d S Q ∧ EndE K w Q R
def lowC (r : C3) : List V → Hp → VK → Prop := fun xs H R => ∃ w S ds Q, Rel3 K w H S ∧ RepDs K w xs ds ∧ r ds S Q ∧ EndE K w Q R
/-- an iterator that yields the items xs, as long as the store is ok -/
def ItR (w : W3) (J : It) (xs : List PyData) (ok : S3 → Prop) : Prop := ∀ w' H S, Ex0 w w' → Rel3 K w' H S → ok S →
  (∀ i, xs.length ≤ i → J.stop i H) ∧ ∀ i x, xs[i]? = some x → J.go i H ∧ ∀ v H', J.yld i H v H' → ∃ w'', Ex3 w' w'' ∧ Rel3 K w'' H' S ∧ Dp K w''.h v x
def lowI (t : TI3) : TI := fun σ H R => ∃ w env S Q, Rel3 K w H S ∧ EnvR K w σ env ∧ t env S Q ∧
  ∀ w' J H' S' xs ok, Ex3 w w' → Rel3 K w' H' S' → ItR K w' J xs ok → xs.length ≤ sizeLine → Q xs ok S' → R J H'
end
section
variable {K : PySem.W.Frag} {w w' : W3}
theorem EndE.mono {Q : K3} {R : VK} (h : EndE K w Q R) (e : Ex3 w w') : EndE K w' Q R := fun w2 v d H' S' x r rd q => h w2 v d H' S' (e.trans x) r rd q
theorem EndT.mono {Q : Bool → S3 → Prop} {R : Bool → Hp → Prop} (h : EndT K w Q R) (e : Ex3 w w') : EndT K w' Q R := fun w2 v H' S' x r q => h w2 v H' S' (e.trans x) r q
theorem EndA.mono {Q : List D → S3 → Prop} {R : List V → Hp → Prop} (h : EndA K w Q R) (e : Ex3 w w') : EndA K w' Q R := fun w2 v d H' S' x r rd q => h w2 v d H' S' (e.trans x) r rd q
theorem EndN.mono {Q : E3 → S3 → Prop} {R : L2.St → Hp → Prop} (h : EndN K w Q R) (e : Ex3 w w') : EndN K w' Q R := fun w2 v H' env S' x r rd q => h w2 v H' env S' (e.trans x) r rd q
theorem EndS.mono {D3 : N3} {D2 : Ends} (h : EndS K w D3 D2) (e : Ex3 w w') : EndS K w' D3 D2 := ⟨h.nx.mono e, h.rt.mono e, h.bk.mono e, h.ct.mono e⟩
end

/-! ### consequence -/
section
variable {X : Cx} {e : Expr} {es : List Expr} {st : Stmt} {sts : List Stmt}
theorem _root_.L2.PE.imp {t t' : TE} (h : PE X e t) (i : ∀ σ H R, t' σ H R → t σ H R) : PE X e t' := ⟨fun pins s σ H Q I q => h.run pins s σ H Q I (i _ _ _ q)⟩
theorem _root_.L2.PT.imp {t t' : TT} (h : PT X e t) (i : ∀ σ H R, t' σ H R → t σ H R) : PT X e t' := ⟨fun pins s σ H Q I q => h.run pins s σ H Q I (i _ _ _ q)⟩
theorem _root_.L2.PW.imp {t t' : TT} (h : PW X e t) (i : ∀ σ H R, t' σ H R → t σ H R) : PW X e t' := ⟨fun wh pins s σ H Q I q => h.run wh pins s σ H Q I (i _ _ _ q)⟩
theorem _root_.L2.PA.imp {t t' : TA} (h : PA X es t) (i : ∀ σ H R, t' σ H R → t σ H R) : PA X es t' := ⟨fun pos pins s σ H Q I q => h.run pos pins s σ H Q I (i _ _ _ q)⟩
theorem _root_.L2.PS.imp {t t' : TS} (h : PS X st t) (i : ∀ D σ H, t' D σ H → t D σ H) : PS X st t' := ⟨fun pins s σ H D I q => h.run pins s σ H D I (i _ _ _ q)⟩
theorem _root_.L2.PSs.imp {t t' : TS} (h : PSs X sts t) (i : ∀ D σ H, t' D σ H → t D σ H) : PSs X sts t' := ⟨fun pins s σ H D I q => h.run pins s σ H D I (i _ _ _ q)⟩
theorem _root_.L2.PG.imp {t t' : TG} (h : PG X e t) (i : ∀ v σ H R, t' v σ H R → t v σ H R) : PG X e t' := ⟨fun pins s σ H v u Q I r q => h.run pins s σ H v u Q I r (i _ _ _ _ q)⟩
theorem _root_.L2.PGs.imp {t t' : TGs} (h : PGs X es t) (i : ∀ v σ H R, t' v σ H R → t v σ H R) : PGs X es t' := ⟨fun pins s σ H v u Q I r q => h.run pins s σ H v u Q I r (i _ _ _ _ q)⟩
theorem _root_.L2.PI.imp {tg : Expr} {t t' : TI} (h : PI X tg e t) (i : ∀ σ H R, t' σ H R → t σ H R) : PI X tg e t' := ⟨fun pins s σ H R I q => h.run pins s σ H R I (i _ _ _ q)⟩
theorem OpR.imp {f : Value → Value → Sem Value} {r r' : R2} (h : OpR X f r) (i : ∀ x y H Q, r' x y H Q → r x y H Q) : OpR X f r' := fun pins s σ H x y v u Q I rx ry q => h pins s σ H x y v u Q I rx ry (i _ _ _ _ q)
theorem IxR.imp {r r' : R2} (h : IxR X r) (i : ∀ x y H Q, r' x y H Q → r x y H Q) : IxR X r' := fun a b pins s σ H x y v u Q I rx ry q => h a b pins s σ H x y v u Q I rx ry (i _ _ _ _ q)
theorem CallR.imp {f : Value} {r r' : List V → Hp → VK → Prop} (h : CallR X f r) (i : ∀ x H Q, r' x H Q → r x H Q) : CallR X f r' := fun pins s σ H xs us Q I rx q => h pins s σ H xs us Q I rx (i _ _ _ q)
theorem CallR.or {f : Value} {r r' : List V → Hp → VK → Prop} (h : CallR X f r) (h' : CallR X f r') : CallR X f (fun x H Q => r x H Q ∨ r' x H Q) := fun pins s σ H xs us Q I rx q => q.elim (h pins s σ H xs us Q I rx) (h' pins s σ H xs us Q I rx)
theorem UnR.imp {f : Value → Sem Value} {r r' : V → Hp → VK → Prop} (h : UnR X f r) (i : ∀ x H Q, r' x H Q → r x H Q) : UnR X f r' := fun pins s σ H x v Q I rx q => h pins s σ H x v Q I rx (i _ _ _ q)
theorem MtR.imp {id : String} {r r' : V → List V → Hp → VK → Prop} (h : MtR X id r) (i : ∀ x xs H Q, r' x xs H Q → r x xs H Q) : MtR X id r' := fun pins s σ H x xs v us Q I rx rs q => h pins s σ H x xs v us Q I rx rs (i _ _ _ _ q)
end

/-! ### the judgements -/
abbrev QE (X : Cx) (e : Expr) (t : TE3) : Prop := PE X e (low X.K t)
abbrev QT (X : Cx) (e : Expr) (t : TT3) : Prop := PT X e (lowT X.K t)
abbrev QW (X : Cx) (e : Expr) (t : TT3) : Prop := PW X e (lowT X.K t)
abbrev QA (X : Cx) (es : List Expr) (t : TA3) : Prop := PA X es (lowA X.K t)
abbrev QS (X : Cx) (st : Stmt) (t : TS3) : Prop := PS X st (lowS X.K t)
abbrev QSs (X : Cx) (sts : List Stmt) (t : TS3) : Prop := PSs X sts (lowS X.K t)
abbrev QG (X : Cx) (e : Expr) (t : TG3) : Prop := PG X e (lowG X.K t)
abbrev QGs (X : Cx) (es : List Expr) (t : TGs3) : Prop := PGs X es (lowGs X.K t)
abbrev QI (X : Cx) (tg e : Expr) (t : TI3) : Prop := PI X tg e (lowI X.K t)
abbrev OQ (X : Cx) (f : Value → Value → Sem Value) (r : R3) : Prop := OpR X f (lowR X.K r)
abbrev IQ (X : Cx) (r : R3) : Prop := IxR X (lowR X.K r)
abbrev UQ (X : Cx) (f : Value → Sem Value) (r : U3) : Prop := UnR X f (lowU X.K r)
abbrev CQ (X : Cx) (f : Value) (r : C3) : Prop := CallR X f (lowC X.K r)

/-! ### names, constants, operators -/
def tVar3 (i : Nat) : TE3 := fun env S Q => match at3 env i with
  | some d => Q d S
  | none => False
def tC3 (d : PyData) : TE3 := fun _ S Q => Q (.p d) S
def tOp3 (r : R3) (ta tb : TE3) : TE3 := fun env S Q => ta env S fun x S1 => tb env S1 fun y S2 => r x y S2 Q
def tUn3 (r : U3) (ta : TE3) : TE3 := fun env S Q => ta env S fun x S1 => r x S1 Q
def tNil3 : TA3 := fun _ S Q => Q [] S
def tCons3 (ta : TE3) (tr : TA3) : TA3 := fun env S Q => ta env S fun x S1 => tr env S1 fun xs S2 => Q (x :: xs) S2
def tCB3 (r : C3) (t : TA3) : TE3 := fun env S Q => t env S fun ds S1 => r ds S1 Q
section
variable {X : Cx} {a b c : Expr} {es : List Expr} {ta tb tc : TE3} {tr : TA3} {pos : Pos}
theorem qv (i : Nat) {x : Str} {pos : Pos} (hN : X.N[i]? = some x := by rfl) (hv : Vis X.env.scope x := by first | exact Or.inl rfl | exact Or.inr (Or.inl rfl) | exact Or.inr (Or.inr rfl)) (hd : (x == ("__debug__" : Str)) = false := by decide)
    (hcd : (x == ("__classdict__" : Str)) = false := by decide) : QE X (.Name x pos) (tVar3 i) := (pe_var hN hv hd hcd).imp fun σ H R ⟨w, env, S, Q, r, en, t, q⟩ => by
  unfold tVar3 at t
  cases h : at3 env i with
  | none => rw [h] at t; exact t.elim
  | some d =>
    rw [h] at t
    obtain ⟨v, h1, h2⟩ := en.2 i d h
    exact ⟨v, h1, q w v d H S (Ex3.refl w) r h2 t⟩
theorem qe_c {v : V} {d : PyData} (h : PE X a (tC v)) (hd : ∀ K H, Dp K H v d) : QE X a (tC3 d) := L2.PE.imp h fun σ H R ⟨w, env, S, Q, r, en, t, q⟩ => q w v (.p d) H S (Ex3.refl w) r (hd _ _) t
theorem qe_int {i j pos} : QE X (.Constant (.int i) j pos) (tC3 (.int i)) := qe_c pe_int fun _ _ => .int i
theorem qe_bl {i j pos} : QE X (.Constant (.bool i) j pos) (tC3 (.bool i)) := qe_c pe_bl fun _ _ => .bl i
theorem qe_non {j pos} : QE X (.Constant .none j pos) (tC3 .none) := qe_c pe_non fun _ _ => .non
theorem qe_str {x j pos} : QE X (.Constant (.str x) j pos) (tC3 (.str x)) := qe_c pe_str fun _ _ => .str x
/-- a module's constant -/
theorem qe_glob {x : Str} {v : V} {u : Value} {d : PyData} {pos : Pos} (hg : Gl X x) (hm : X.mg x = some u) (r : RelV v u) (hd : ∀ H, Dp X.K H v d) (hdb : (x == ("__debug__" : Str)) = false := by decide) : QE X (.Name x pos) (tC3 d) :=
  L2.PE.imp (pe_glob hg hm r hdb) fun σ H R ⟨w, env, S, Q, r, en, t, q⟩ => q w v (.p d) H S (Ex3.refl w) r (hd _) t

theorem low2 {K : PySem.W.Frag} {r : R3} {σ : L2.St} {H : Hp} {R : VK} (h : low K (tOp3 r ta tb) σ H R) : tOp (lowR K r) (low K ta) (low K tb) σ H R := by
  obtain ⟨w, env, S, Q, r0, en, t, q⟩ := h
  refine ⟨w, env, S, _, r0, en, t, fun w1 v1 d1 H1 S1 e1 r1 p1 t1 => ?_⟩
  refine ⟨w1, env, S1, _, r1, en.mono e1, t1, fun w2 v2 d2 H2 S2 e2 r2 p2 t2 => ?_⟩
  exact ⟨w2, S2, d1, d2, Q, r2, p1.mono e2, p2, t2, q.mono (e1.trans e2)⟩
theorem qe_op {op : Operator} {r : R3} (ho : OQ X (binaryOp op) r) (ha : QE X a ta) (hb : QE X b tb) : QE X (.BinOp a op b pos) (tOp3 r ta tb) := (pe_op ho ha hb).imp fun _ _ _ => low2
theorem qe_un {op : UnaryOp} {r : U3} (ho : UQ X (unaryOp op) r) (ha : QE X a ta) : QE X (.UnaryOp op a pos) (tUn3 r ta) := (pe_un ho ha).imp fun σ H R ⟨w, env, S, Q, r0, en, t, q⟩ =>
  ⟨w, env, S, _, r0, en, t, fun w1 v1 d1 H1 S1 e1 r1 p1 t1 => ⟨w1, S1, d1, Q, r1, p1, t1, q.mono e1⟩⟩
theorem qe_ix {r : R3} (hr : IQ X r) (ha : QE X a ta) (hb : QE X b tb) (hs : PlainIx b := by exact fun _ _ => rfl) : QE X (.Subscript a b pos) (tOp3 r ta tb) := (pe_ix hr ha hb hs).imp fun _ _ _ => low2
theorem qe_cmp {op : CmpOp} {r : R3} (ho : OQ X (compareOp op) r) (ha : QE X a ta) (hb : QE X b tb) (hm : behindInMarks op b = false := by first | exact nomark _ | rfl) : QE X (.Compare a [op] [b] pos) (tOp3 r ta tb) := (pe_cmpR ho ha hb hm).imp fun _ _ _ => low2
def tTest3 (t : TE3) : TT3 := fun env S Q => t env S fun x S1 => match x with
  | .p (.bool c) => Q c S1
  | _ => False
theorem dp_bl {K : PySem.W.Frag} {w : W3} {v : V} {b : Bool} (h : RepD K w v (.p (.bool b))) : v = .bl b := by
  have h' : Dp K w.h v (.bool b) := h
  cases h'
  rfl
theorem dp_int {K : PySem.W.Frag} {w : W3} {v : V} {b : Int} (h : RepD K w v (.p (.int b))) : v = .int b := by
  have h' : Dp K w.h v (.int b) := h
  cases h'
  rfl
theorem dp_str {K : PySem.W.Frag} {w : W3} {v : V} {b : Str} (h : RepD K w v (.p (.str b))) : v = .str b := by
  have h' : Dp K w.h v (.str b) := h
  cases h'
  rfl
theorem dp_non {K : PySem.W.Frag} {w : W3} {v : V} (h : RepD K w v (.p .none)) : v = .non := by
  have h' : Dp K w.h v .none := h
  cases h'
  rfl
theorem rep_int {K : PySem.W.Frag} {w : W3} {i : Int} : RepD K w (.int i) (.p (.int i)) := Dp.int i
theorem rep_bl {K : PySem.W.Frag} {w : W3} {i : Bool} : RepD K w (.bl i) (.p (.bool i)) := Dp.bl i
theorem rep_str {K : PySem.W.Frag} {w : W3} {i : Str} : RepD K w (.str i) (.p (.str i)) := Dp.str i
theorem rep_non {K : PySem.W.Frag} {w : W3} : RepD K w .non (.p .none) := Dp.non
theorem test_low {K : PySem.W.Frag} {t : TE3} {t2 : TE} {σ : L2.St} {H : Hp} {R : Bool → Hp → Prop} (h2 : ∀ R', low K t σ H R' → t2 σ H R') (h : lowT K (tTest3 t) σ H R) : t2 σ H fun x H' => ∃ k, x = .bl k ∧ R k H' := by
  obtain ⟨w, env, S, Q, r0, en, t, q⟩ := h
  refine h2 _ ⟨w, env, S, _, r0, en, t, fun w1 v1 d1 H1 S1 e1 r1 p1 t1 => ?_⟩
  cases d1 with
  | loc n | exc n => exact t1.elim
  | p d =>
    cases d with
    | bool c => exact ⟨c, dp_bl p1, q w1 c H1 S1 e1 r1 t1⟩
    | _ => exact t1.elim
theorem qt_cmp {op : CmpOp} {r : R3} (ho : OQ X (compareOp op) r) (ha : QE X a ta) (hb : QE X b tb) (hm : behindInMarks op b = false := by first | exact nomark _ | rfl) : QT X (.Compare a [op] [b] pos) (tTest3 (tOp3 r ta tb)) :=
  (pt_cmpR ho ha hb hm).imp fun σ H R h => test_low (fun R' => low2) h
def tChain3 (r r' : R3) (ta tb tc : TE3) : TE3 := fun env S Q => ta env S fun x S1 => tb env S1 fun y S2 => r x y S2 fun z S3 => match z with
  | .p (.bool k) => if k = true then tc env S3 fun v S4 => r' y v S4 Q else Q (.p (.bool false)) S3
  | _ => False
theorem low_chain {K : PySem.W.Frag} {r r' : R3} {σ : L2.St} {H : Hp} {R : VK} (h : low K (tChain3 r r' ta tb tc) σ H R) : tChain (lowR K r) (lowR K r') (low K ta) (low K tb) (low K tc) σ H R := by
  obtain ⟨w, env, S, Q, r0, en, t, q⟩ := h
  refine ⟨w, env, S, _, r0, en, t, fun w1 v1 d1 H1 S1 e1 r1 p1 t1 => ?_⟩
  refine ⟨w1, env, S1, _, r1, en.mono e1, t1, fun w2 v2 d2 H2 S2 e2 r2 p2 t2 => ?_⟩
  refine ⟨w2, S2, d1, d2, _, r2, p1.mono e2, p2, t2, fun w3 v3 d3 H3 S3 e3 r3 p3 t3 => ?_⟩
  cases d3 with
  | loc n | exc n => exact t3.elim
  | p d =>
    cases d with
    | bool k =>
      refine ⟨k, dp_bl p3, ?_⟩
      cases k with
      | true =>
        simp only [if_true] at t3
        rw [if_pos rfl]
        refine ⟨w3, env, S3, _, r3, en.mono ((e1.trans e2).trans e3), t3, fun w4 v4 d4 H4 S4 e4 r4 p4 t4 => ?_⟩
        exact ⟨w4, S4, d2, d4, Q, r4, p2.mono (e3.trans e4), p4, t4, q.mono (((e1.trans e2).trans e3).trans e4)⟩
      | false =>
        simp only [Bool.false_eq_true, if_false] at t3
        rw [if_neg Bool.false_ne_true]
        exact q w3 _ _ H3 S3 ((e1.trans e2).trans e3) r3 rep_bl t3
    | _ => exact t3.elim
theorem qe_chain {op op' : CmpOp} {r r' : R3} (ho : OQ X (compareOp op) r) (ho' : OQ X (compareOp op') r') (ha : QE X a ta) (hb : QE X b tb) (hc : QE X c tc)
    (hm : lastMarks [op, op'] [b, c] = false := by with_unfolding_all rfl) : QE X (.Compare a [op, op'] [b, c] pos) (tChain3 r r' ta tb tc) := (pe_chain ho ho' ha hb hc hm).imp fun _ _ _ => low_chain
theorem qt_chain {op op' : CmpOp} {r r' : R3} (ho : OQ X (compareOp op) r) (ho' : OQ X (compareOp op') r') (ha : QE X a ta) (hb : QE X b tb) (hc : QE X c tc)
    (hm : lastMarks [op, op'] [b, c] = false := by with_unfolding_all rfl) : QT X (.Compare a [op, op'] [b, c] pos) (tTest3 (tChain3 r r' ta tb tc)) := (pt_chain ho ho' ha hb hc hm).imp fun σ H R h => test_low (fun R' => low_chain) h
/-- an expression that gives a truth, as a test -/
theorem qt_val {e : Expr} {t : TE3} (h : QE X e t) (he : ∀ whole, isTrue e X.env whole = (do let v ← whole; standAt e.pos; holding [v] (truthy v)) := by intro _; rfl) : QT X e (tTest3 t) :=
  (pt_val h he).imp fun σ H R h => test_low (t2 := low X.K t) (fun R' q => q) h

/-! and, or, not, if -/
def tAnd3 (t u : TT3) : TT3 := fun env S Q => t env S fun c S1 => if c = true then u env S1 Q else Q false S1
def tOr3 (t u : TT3) : TT3 := fun env S Q => t env S fun c S1 => if c = true then Q true S1 else u env S1 Q
def tNot3 (t : TT3) : TT3 := fun env S Q => t env S fun c S1 => Q (!c) S1
variable {tA tB' : TT3} {rest : List Expr}
theorem qw_and1 (ha : QT X a tA) : QW X (.BoolOp .And [a] pos) tA := pw_and1 ha
theorem qw_or1 (ha : QT X a tA) : QW X (.BoolOp .Or [a] pos) tA := pw_or1 ha
theorem qw_and (ha : QT X a tA) (hb : QW X (.BoolOp .And (b :: rest) pos) tB') : QW X (.BoolOp .And (a :: b :: rest) pos) (tAnd3 tA tB') := (pw_and ha hb).imp fun σ H R ⟨w, env, S, Q, r0, en, t, q⟩ => by
  refine ⟨w, env, S, _, r0, en, t, fun w1 c H1 S1 e1 r1 t1 => ?_⟩
  cases c with
  | true =>
    rw [if_pos rfl] at t1 ⊢
    exact ⟨w1, env, S1, Q, r1, en.mono e1, t1, q.mono e1⟩
  | false =>
    rw [if_neg Bool.false_ne_true] at t1 ⊢
    exact q w1 false H1 S1 e1 r1 t1
theorem qw_or (ha : QT X a tA) (hb : QW X (.BoolOp .Or (b :: rest) pos) tB') : QW X (.BoolOp .Or (a :: b :: rest) pos) (tOr3 tA tB') := (pw_or ha hb).imp fun σ H R ⟨w, env, S, Q, r0, en, t, q⟩ => by
  refine ⟨w, env, S, _, r0, en, t, fun w1 c H1 S1 e1 r1 t1 => ?_⟩
  cases c with
  | false =>
    rw [if_neg Bool.false_ne_true] at t1 ⊢
    exact ⟨w1, env, S1, Q, r1, en.mono e1, t1, q.mono e1⟩
  | true =>
    rw [if_pos rfl] at t1 ⊢
    exact q w1 true H1 S1 e1 r1 t1
theorem qt_w (h : QW X a tA) : QT X a tA := PW.pt h
theorem qt_not (ha : QT X a tA) : QT X (.UnaryOp .Not a pos) (tNot3 tA) := (pt_not ha).imp fun σ H R ⟨w, env, S, Q, r0, en, t, q⟩ =>
  ⟨w, env, S, _, r0, en, t, fun w1 c H1 S1 e1 r1 t1 => q w1 (!c) H1 S1 e1 r1 t1⟩
def tAndV3 (ta tb : TE3) : TE3 := fun env S Q => ta env S fun x S1 => match x with
  | .p (.bool k) => if k = true then tb env S1 Q else Q (.p (.bool false)) S1
  | _ => False
def tOrV3 (ta tb : TE3) : TE3 := fun env S Q => ta env S fun x S1 => match x with
  | .p (.bool k) => if k = true then Q (.p (.bool true)) S1 else tb env S1 Q
  | _ => False
def tNotV3 (ta : TE3) : TE3 := fun env S Q => ta env S fun x S1 => match x with
  | .p (.bool c) => Q (.p (.bool (!c))) S1
  | _ => False
theorem qe_one {op} {t : TE3} (h : QE X a t) : QE X (.BoolOp op [a] pos) t := pe_one h
theorem qe_and (ha : QE X a ta) (hb : QE X (.BoolOp .And (b :: rest) pos) tb) : QE X (.BoolOp .And (a :: b :: rest) pos) (tAndV3 ta tb) := (pe_and ha hb).imp fun σ H R ⟨w, env, S, Q, r0, en, t, q⟩ => by
  refine ⟨w, env, S, _, r0, en, t, fun w1 v1 d1 H1 S1 e1 r1 p1 t1 => ?_⟩
  cases d1 with
  | loc n | exc n => exact t1.elim
  | p d =>
    cases d with
    | bool k =>
      refine ⟨k, dp_bl p1, ?_⟩
      cases k with
      | true =>
        simp only [if_true] at t1
        rw [if_pos rfl]
        exact ⟨w1, env, S1, Q, r1, en.mono e1, t1, q.mono e1⟩
      | false =>
        simp only [Bool.false_eq_true, if_false] at t1
        rw [if_neg Bool.false_ne_true]
        exact q w1 _ _ H1 S1 e1 r1 rep_bl t1
    | _ => exact t1.elim
theorem qe_or (ha : QE X a ta) (hb : QE X (.BoolOp .Or (b :: rest) pos) tb) : QE X (.BoolOp .Or (a :: b :: rest) pos) (tOrV3 ta tb) := (pe_or ha hb).imp fun σ H R ⟨w, env, S, Q, r0, en, t, q⟩ => by
  refine ⟨w, env, S, _, r0, en, t, fun w1 v1 d1 H1 S1 e1 r1 p1 t1 => ?_⟩
  cases d1 with
  | loc n | exc n => exact t1.elim
  | p d =>
    cases d with
    | bool k =>
      refine ⟨k, dp_bl p1, ?_⟩
      cases k with
      | false =>
        simp only [Bool.false_eq_true, if_false] at t1
        rw [if_neg Bool.false_ne_true]
        exact ⟨w1, env, S1, Q, r1, en.mono e1, t1, q.mono e1⟩
      | true =>
        simp only [if_true] at t1
        rw [if_pos rfl]
        exact q w1 _ _ H1 S1 e1 r1 rep_bl t1
    | _ => exact t1.elim
theorem qe_not (ha : QE X a ta) : QE X (.UnaryOp .Not a pos) (tNotV3 ta) := (pe_not ha).imp fun σ H R ⟨w, env, S, Q, r0, en, t, q⟩ => by
  refine ⟨w, env, S, _, r0, en, t, fun w1 v1 d1 H1 S1 e1 r1 p1 t1 => ?_⟩
  cases d1 with
  | loc n | exc n => exact t1.elim
  | p d =>
    cases d with
    | bool k => exact ⟨k, dp_bl p1, q w1 _ _ H1 S1 e1 r1 rep_bl t1⟩
    | _ => exact t1.elim
def tIf3 (t : TT3) (ta tb : TE3) : TE3 := fun env S Q => t env S fun c S1 => if c = true then ta env S1 Q else tb env S1 Q
theorem qe_if (hc : QT X c tA) (ha : QE X a ta) (hb : QE X b tb) : QE X (.IfExp c a b pos) (tIf3 tA ta tb) := (pe_ifExp hc ha hb).imp fun σ H R ⟨w, env, S, Q, r0, en, t, q⟩ => by
  refine ⟨w, env, S, _, r0, en, t, fun w1 c H1 S1 e1 r1 t1 => ?_⟩
  cases c with
  | true =>
    rw [if_pos rfl] at t1 ⊢
    exact ⟨w1, env, S1, Q, r1, en.mono e1, t1, q.mono e1⟩
  | false =>
    rw [if_neg Bool.false_ne_true] at t1 ⊢
    exact ⟨w1, env, S1, Q, r1, en.mono e1, t1, q.mono e1⟩

/-! ### arguments, calls of built-ins, displays -/
theorem qa_nil : QA X [] tNil3 := pa_nil.imp fun σ H R ⟨w, env, S, Q, r0, en, t, q⟩ => q w [] [] H S (Ex3.refl w) r0 trivial t
theorem qa_cons (ha : QE X a ta) (hr : QA X es tr) (hs : starEach (a :: es) X.env = (false, eval a X.env) :: starEach es X.env := by rfl) : QA X (a :: es) (tCons3 ta tr) := (pa_cons ha hr hs).imp fun σ H R ⟨w, env, S, Q, r0, en, t, q⟩ => by
  refine ⟨w, env, S, _, r0, en, t, fun w1 v1 d1 H1 S1 e1 r1 p1 t1 => ?_⟩
  refine ⟨w1, env, S1, _, r1, en.mono e1, t1, fun w2 vs ds H2 S2 e2 r2 p2 t2 => ?_⟩
  exact q w2 (v1 :: vs) (d1 :: ds) H2 S2 (e1.trans e2) r2 ⟨p1.mono e2, p2⟩ t2
theorem lowCB {K : PySem.W.Frag} {r : C3} {t : TA3} {σ : L2.St} {H : Hp} {R : VK} (h : low K (tCB3 r t) σ H R) : tCB (lowC K r) (lowA K t) σ H R := by
  obtain ⟨w, env, S, Q, r0, en, t, q⟩ := h
  exact ⟨w, env, S, _, r0, en, t, fun w1 vs ds H1 S1 e1 r1 p1 t1 => ⟨w1, S1, ds, Q, r1, p1, t1, q.mono e1⟩⟩
theorem qe_cb {id : String} {x : Str} {p : Pos} {r : C3} (hc : CQ X (.builtin id) r) (hg : Gl X x) (hm : X.mg x = none) (hv : bootBuiltins x = some (.builtin id)) (ha : QA X (a :: es) tr) (hn : x ≠ "__name__" := by decide) (hdb : (x == ("__debug__" : Str)) = false := by decide)
    (he : starEach (a :: es) X.env = (false, eval a X.env) :: starEach es X.env := by rfl) (hpl : (backTo pos (starEach es X.env)).any (·.1) = false := by rfl) : QE X (.Call (.Name x p) (a :: es) [] pos) (tCB3 r tr) :=
  (pe_callB hc hg hm hv ha hn hdb he hpl).imp fun _ _ _ => lowCB
theorem qe_ty {T : String} {x : Str} {p : Pos} {r : C3} (hc : CQ X (.type T) r) (hg : Gl X x) (hm : X.mg x = none) (hv : bootBuiltins x = some (.type T)) (ha : QA X (a :: es) tr) (hn : x ≠ "__name__" := by decide) (hdb : (x == ("__debug__" : Str)) = false := by decide)
    (he : starEach (a :: es) X.env = (false, eval a X.env) :: starEach es X.env := by rfl) (hpl : (backTo pos (starEach es X.env)).any (·.1) = false := by rfl) : QE X (.Call (.Name x p) (a :: es) [] pos) (tCB3 r tr) :=
  (pe_callTy hc hg hm hv ha hn hdb he hpl).imp fun _ _ _ => lowCB
end
def pures : List D → Option (List PyData)
  | [] => some []
  | .p d :: r => match pures r with
    | some ds => some (d :: ds)
    | none => none
  | _ :: _ => none
section
variable {K : PySem.W.Frag} {w : W3}
theorem pures_all : ∀ {vs : List V} {ds : List D} {es : List PyData}, RepDs K w vs ds → pures ds = some es → DpAll K w.h vs es
  | [], [], es, _, h => by cases h; exact .nil
  | v :: vs, .p d :: ds, es, r, h => by
    unfold pures at h
    cases q : pures ds with
    | none => rw [q] at h; cases h
    | some fs =>
      rw [q] at h
      cases h
      exact .cons r.1 (pures_all r.2 q)
  | v :: vs, .loc n :: ds, es, r, h => by unfold pures at h; cases h
  | [], _ :: _, _, r, _ => r.elim
  | _ :: _, [], _, r, _ => r.elim
end
def tTup3 (t : TA3) : TE3 := fun env S Q => t env S fun ds S1 => match pures ds with
  | some es => es.length ≤ sizeLine ∧ Q (.p (.tuple es)) S1
  | none => False
section
variable {X : Cx} {es : List Expr} {tr : TA3} {pos : Pos}
theorem qe_tup {x1} (h : QA X es tr) : QE X (.Tuple es x1 pos) (tTup3 tr) := (pe_tup h).imp fun σ H R ⟨w, env, S, Q, r0, en, t, q⟩ => by
  refine ⟨w, env, S, _, r0, en, t, fun w1 vs ds H1 S1 e1 r1 p1 t1 => ?_⟩
  cases hp : pures ds with
  | none => rw [hp] at t1; exact t1.elim
  | some xs =>
    rw [hp] at t1
    have ha := pures_all p1 hp
    have hl := DpAll.length ha
    refine ⟨by rw [hl]; exact t1.1, fun p hn => ?_⟩
    obtain ⟨r2, e2⟩ := r1.frz (u := .tup vs) hn (by show vs.length ≤ _; rw [hl]; exact t1.1)
    exact q _ (.ref p) (.p (.tuple xs)) _ S1 (e1.trans e2) r2 (Dp.tup (.inl (.inl upd_same)) (dpAll_mono e2.h xs vs ha)) t1.2
/-! ### an expression that makes a new list: it stays as it is, or it is an object of the store -/
abbrev TN3 := E3 → S3 → (List PyData → S3 → Prop) → Prop
def EndNew (K : PySem.W.Frag) (w : W3) (Q : List PyData → S3 → Prop) (R : VK) : Prop := ∀ w' p xs ds H' S', Ex3 w w' → Rel3 K w' H' S' → H' p = none → DpAll K w'.h xs ds → ds.length ≤ sizeLine → Q ds S' → R (.ref p) (upd H' p (.lst xs))
def lowN (K : PySem.W.Frag) (t : TN3) : TE := fun σ H R => ∃ w env S Q, Rel3 K w H S ∧ EnvR K w σ env ∧ t env S Q ∧ EndNew K w Q R
abbrev QN (X : Cx) (e : Expr) (t : TN3) : Prop := PE X e (lowN X.K t)
def tPure (t : TN3) : TE3 := fun env S Q => t env S fun ds S1 => Q (.p (.list ds)) S1
def tOwn (t : TN3) : TE3 := fun env S Q => t env S fun ds S1 => Q (.loc S1.length) (S1 ++ [some (.lst ds)])
theorem qn_pure {e : Expr} {t : TN3} (h : QN X e t) : QE X e (tPure t) := L2.PE.imp h fun σ H R ⟨w, env, S, Q, r0, en, t, q⟩ => by
  refine ⟨w, env, S, _, r0, en, t, fun w1 p xs ds H1 S1 e1 r1 hn ha hz t1 => ?_⟩
  have hl := DpAll.length ha
  obtain ⟨r2, e2⟩ := r1.frz (u := .lst xs) hn (by show xs.length ≤ _; rw [hl]; exact hz)
  exact q _ (.ref p) (.p (.list ds)) _ S1 (e1.trans e2) r2 (Dp.lst (.inl (.inl upd_same)) (dpAll_mono e2.h ds xs ha)) t1
theorem qn_own {e : Expr} {t : TN3} (h : QN X e t) : QE X e (tOwn t) := L2.PE.imp h fun σ H R ⟨w, env, S, Q, r0, en, t, q⟩ => by
  refine ⟨w, env, S, _, r0, en, t, fun w1 p xs ds H1 S1 e1 r1 hn ha hz t1 => ?_⟩
  obtain ⟨r2, e2⟩ := r1.push (u := .lst xs) (o := .lst ds) hn ⟨xs, rfl, ha, hz⟩
  refine q _ (.ref p) (.loc S1.length) _ _ (e1.trans e2) r2 ⟨p, ?_, rfl⟩ t1
  show (w1.al ++ [p])[S1.length]? = some p
  rw [← r1.len, List.getElem?_append_right (Nat.le_refl _)]
  simp
def tLst3 (t : TA3) : TN3 := fun env S Q => t env S fun ds S1 => match pures ds with
  | some es => es.length ≤ sizeLine ∧ Q es S1
  | none => False
theorem qn_lst (h : QA X es tr) : QN X (.List es pos) (tLst3 tr) := (pe_lst h).imp fun σ H R ⟨w, env, S, Q, r0, en, t, q⟩ => by
  refine ⟨w, env, S, _, r0, en, t, fun w1 vs ds H1 S1 e1 r1 p1 t1 => ?_⟩
  cases hp : pures ds with
  | none => rw [hp] at t1; exact t1.elim
  | some xs =>
    rw [hp] at t1
    have ha := pures_all p1 hp
    have hl := DpAll.length ha
    exact ⟨by rw [hl]; exact t1.1, fun p hn => q w1 p vs xs H1 S1 e1 r1 hn ha t1.1 t1.2⟩
end
end L3

namespace L3
open PySem PySem.Spec PyProof.Rows L2
/-! ### statements -/
section
variable {K : PySem.W.Frag} {w : W3} {H : Hp} {S : S3} {σ : L2.St} {env : E3}
theorem EnvR.put {v : V} {d : D} {i : Nat} (h : EnvR K w σ env) (hi : σ[i]? = some (some v)) (r : RepD K w v d) : EnvR K w σ (set3 env i d) := by
  refine ⟨by rw [set3_length]; exact h.1, fun j e q => ?_⟩
  rw [at3_set] at q
  by_cases hj : j = i ∧ i < env.length
  · rw [if_pos hj] at q
    cases q
    rw [hj.1]
    exact ⟨v, hi, r⟩
  · rw [if_neg hj] at q
    exact h.2 j e q
theorem EndS.at {D3 : N3} {D2 : Ends} (h : EndS K w D3 D2) : EndS K w D3 D2 := h
end
def tNext3 : TS3 := fun D env S => D.nx env S
def tSeq3 (t u : TS3) : TS3 := fun D env S => t { D with nx := fun e s => u D e s } env S
def tDrop3 (te : TE3) : TS3 := fun D env S => te env S fun _ S1 => D.nx env S1
def tRet3 (te : TE3) : TS3 := fun D env S => te env S D.rt
def tRetN3 : TS3 := fun D _ S => D.rt (.p .none) S
def tBreak3 : TS3 := fun D env S => D.bk env S
def tCont3 : TS3 := fun D env S => D.ct env S
def tIfS3 (c : TT3) (t u : TS3) : TS3 := fun D env S => c env S fun b S1 => if b = true then t D env S1 else u D env S1
def tNever3 : TS3 := fun _ _ _ => False
/-- an own list in slot i is said to change no more -/
def tFrz3 (i : Nat) (u : TS3) : TS3 := fun D env S => match at3 env i with
  | some (.loc n) => ∃ ds, S[n]? = some (some (.lst ds)) ∧ u D (set3 env i (.p (.list ds))) (S.set n none)
  | _ => False
section
variable {X : Cx} {st : Stmt} {rest a b : List Stmt} {t u : TS3} {e c : Expr} {te : TE3} {tc : TT3} {pos : Pos}
theorem qss_nil : QSs X [] tNext3 := pss_nil.imp fun D σ H ⟨w, env, S, D3, r, en, t, q⟩ => q.nx w σ H env S (Ex3.refl w) r en t
theorem qss_cons (h1 : QS X st t) (h2 : QSs X rest u) : QSs X (st :: rest) (tSeq3 t u) := (pss_cons h1 h2).imp fun D σ H ⟨w, env, S, D3, r, en, t, q⟩ =>
  ⟨w, env, S, _, r, en, t, ⟨fun w1 σ1 H1 env1 S1 e1 r1 en1 t1 => ⟨w1, env1, S1, D3, r1, en1, t1, q.mono e1⟩, q.rt, q.bk, q.ct⟩⟩
theorem qss_one (h1 : QS X st t) : QSs X [st] t := pss_one h1
theorem qs_pass : QS X (.Pass pos) tNext3 := ps_pass.imp fun D σ H ⟨w, env, S, D3, r, en, t, q⟩ => q.nx w σ H env S (Ex3.refl w) r en t
theorem qs_break : QS X (.Break pos) tBreak3 := ps_break.imp fun D σ H ⟨w, env, S, D3, r, en, t, q⟩ => q.bk w σ H env S (Ex3.refl w) r en t
theorem qs_continue : QS X (.Continue pos) tCont3 := ps_continue.imp fun D σ H ⟨w, env, S, D3, r, en, t, q⟩ => q.ct w σ H env S (Ex3.refl w) r en t
theorem qs_expr (he : QE X e te) (hs : swapsWith e none pos.line X.env = pure false := by rfl) : QS X (.Expr e pos) (tDrop3 te) := (ps_expr he hs).imp fun D σ H ⟨w, env, S, D3, r, en, t, q⟩ =>
  ⟨w, env, S, _, r, en, t, fun w1 v d H1 S1 e1 r1 p1 t1 => q.nx w1 σ H1 env S1 e1 r1 (en.mono e1) t1⟩
theorem qs_ret (he : QE X e te) : QS X (.Return (some e) pos) (tRet3 te) := (ps_ret he).imp fun D σ H ⟨w, env, S, D3, r, en, t, q⟩ => ⟨w, env, S, _, r, en, t, q.rt⟩
theorem qs_retN : QS X (.Return none pos) tRetN3 := ps_retN.imp fun D σ H ⟨w, env, S, D3, r, en, t, q⟩ => q.rt w .non (.p .none) H S (Ex3.refl w) r rep_non t
theorem qs_if (hc : QT X c tc) (ha : QSs X a t) (hb : QSs X b u) : QS X (.If c a b pos) (tIfS3 tc t u) := (ps_if hc ha hb).imp fun D σ H ⟨w, env, S, D3, r, en, t, q⟩ => by
  refine ⟨w, env, S, _, r, en, t, fun w1 b H1 S1 e1 r1 t1 => ?_⟩
  cases b with
  | true =>
    rw [if_pos rfl] at t1 ⊢
    exact ⟨w1, env, S1, D3, r1, en.mono e1, t1, q.mono e1⟩
  | false =>
    rw [if_neg Bool.false_ne_true] at t1 ⊢
    exact ⟨w1, env, S1, D3, r1, en.mono e1, t1, q.mono e1⟩
theorem qs_never : QS X st tNever3 := ps_never.imp fun D σ H ⟨w, env, S, D3, r, en, t, q⟩ => t.elim
theorem qss_never : QSs X rest tNever3 := pss_never.imp fun D σ H ⟨w, env, S, D3, r, en, t, q⟩ => t.elim
theorem qss_frz (i : Nat) (h : QSs X rest u) : QSs X rest (tFrz3 i u) := L2.PSs.imp h fun D σ H ⟨w, env, S, D3, r, en, t, q⟩ => by
  unfold tFrz3 at t
  split at t
  · rename_i n hn
    obtain ⟨ds, hs, t⟩ := t
    obtain ⟨v, hv, a, ha, rfl⟩ := en.2 i _ hn
    obtain ⟨u', r1, e1, d1⟩ := r.freeze ha hs
    exact ⟨_, _, _, D3, r1, (en.mono e1).put (d := .p (.list ds)) hv d1, t, q.mono e1⟩
  · exact t.elim
end

/-! ### targets: names, tuples of targets -/
mutual
inductive Tg where
  | nm (i : Nat)
  | tup (ts : Tgs)
inductive Tgs where
  | nil
  | cons (t : Tg) (r : Tgs)
end
def Tgs.len : Tgs → Nat
  | .nil => 0
  | .cons _ r => r.len + 1
mutual
def Tg.slots : Tg → List Nat
  | .nm i => [i]
  | .tup ts => ts.slots
def Tgs.slots : Tgs → List Nat
  | .nil => []
  | .cons t r => t.slots ++ r.slots
end
mutual
def g2 (K : PySem.W.Frag) : Tg → TG
  | .nm i => gName i
  | .tup ts => gTup K ts.len (gs2 K ts)
def gs2 (K : PySem.W.Frag) : Tgs → TGs
  | .nil => gNil
  | .cons t r => gCons (g2 K t) (gs2 K r)
end
mutual
def bind3 : Tg → PyData → E3 → Option E3
  | .nm i, d, env => some (set3 env i (.p d))
  | .tup ts, .tuple ds, env => binds3 ts ds env
  | .tup _, _, _ => none
def binds3 : Tgs → List PyData → E3 → Option E3
  | .nil, [], env => some env
  | .cons t r, d :: ds, env => match bind3 t d env with
    | some env1 => binds3 r ds env1
    | none => none
  | _, _, _ => none
end
abbrev QB (X : Cx) (tg : Expr) (T : Tg) : Prop := PG X tg (g2 X.K T)
abbrev QBs (X : Cx) (tgs : List Expr) (T : Tgs) : Prop := PGs X tgs (gs2 X.K T)
section
variable {X : Cx} {pos : Pos}
theorem qb_nm {i : Nat} {x : Str} (hN : X.N.Nodup) (hi : X.N[i]? = some x) (hx : Loc X.env.scope x) (hf : X.fn x = true ∨ X.env.scope.names.lookup x = some .local := by first | exact .inl rfl | exact .inr rfl | assumption) : QB X (.Name x pos) (.nm i) := pg_name hN hi hx hf
theorem qbs_nil : QBs X [] .nil := pgs_nil
theorem qbs_cons {e : Expr} {es : List Expr} {t : Tg} {r : Tgs} (h1 : QB X e t) (h2 : QBs X es r)
    (hs : (assignEach (e :: es) X.env).map (·.2) = assign e X.env :: (assignEach es X.env).map (·.2) := by rfl) : QBs X (e :: es) (.cons t r) := pgs_cons h1 h2 hs
theorem qb_tup {es : List Expr} {k : Nat} {ts : Tgs} (hc : X.calm = true) (h : QBs X es ts)
    (hn : (assignEach es X.env).length = ts.len := by rfl) (hst : (assignEach es X.env).findIdx? (·.1) = none := by rfl) : QB X (.Tuple es k pos) (.tup ts) := pg_tup hc h hn hst
end
theorem wipe_set_mem {v : Option V} : ∀ (σ : L2.St) (vs : List Nat) (i : Nat), i ∈ vs → wipe (σ.set i v) vs = wipe σ vs
  | σ, [], i, h => by cases h
  | σ, j :: vs, i, h => by
    unfold wipe
    by_cases hm : i ∈ vs
    · rw [wipe_set_mem σ vs i hm]
    · have hij : i = j := by
        rcases List.mem_cons.mp h with e | e
        · exact e
        · exact absurd e hm
      subst hij
      have go : ∀ (vs : List Nat), i ∉ vs → wipe (σ.set i v) vs = (wipe σ vs).set i v := by
        intro vs
        induction vs with
        | nil => intro _; rfl
        | cons k vs ih =>
          intro hk
          unfold wipe
          rw [ih fun z => hk (List.mem_cons_of_mem _ z), List.set_comm _ _ fun z => hk (by rw [z]; exact List.mem_cons_self)]
      rw [go vs hm, List.set_set]
theorem wipe_eq : ∀ (σ σ' : L2.St) (vs : List Nat), wipe σ vs = wipe σ' vs → ∀ (i : Nat) (v : Option V), i ∈ vs → wipe (σ.set i v) vs = wipe σ' vs := fun σ σ' vs h i v hi => (wipe_set_mem σ vs i hi).trans h
section
variable {K : PySem.W.Frag} {w : W3} {H : Hp} {S : S3}
mutual
theorem bind_low (r : Rel3 K w H S) (vs : List Nat) : ∀ (T : Tg) (d : PyData) (v : V) (σ : L2.St) (env env2 : E3), (∀ i ∈ T.slots, i ∈ vs) → EnvR K w σ env → Dp K w.h v d → bind3 T d env = some env2 →
    ∀ R : L2.St → Hp → Prop, (∀ σ', EnvR K w σ' env2 → wipe σ' vs = wipe σ vs → R σ' H) → g2 K T v σ H R
  | .nm i, d, v, σ, env, env2, hs, en, dp, hb, R, hR => by
    unfold bind3 at hb
    cases hb
    unfold g2
    exact hR _ (en.set i dp) (wipe_set_mem σ vs i (hs i (by simp [Tg.slots])))
  | .tup ts, .tuple ds, v, σ, env, env2, hs, en, dp, hb, R, hR => by
    unfold bind3 at hb
    cases dp with
    | tup hq ha =>
      unfold g2
      refine ⟨_, _, rfl, Same.sqT r.sub hq, ?_, binds_low r vs ts ds _ σ env env2 (fun i hi => hs i (by unfold Tg.slots; exact hi)) en ha hb R hR⟩
      rw [DpAll.length ha]
      exact binds_len ts ds env env2 hb
  | .tup _, .none, v, σ, env, env2, hs, en, dp, hb, R, hR => by simp [bind3] at hb
  | .tup _, .bool _, v, σ, env, env2, hs, en, dp, hb, R, hR => by simp [bind3] at hb
  | .tup _, .int _, v, σ, env, env2, hs, en, dp, hb, R, hR => by simp [bind3] at hb
  | .tup _, .str _, v, σ, env, env2, hs, en, dp, hb, R, hR => by simp [bind3] at hb
  | .tup _, .list _, v, σ, env, env2, hs, en, dp, hb, R, hR => by simp [bind3] at hb
  | .tup _, .dict _, v, σ, env, env2, hs, en, dp, hb, R, hR => by simp [bind3] at hb
theorem binds_low (r : Rel3 K w H S) (vs : List Nat) : ∀ (T : Tgs) (ds : List PyData) (us : List V) (σ : L2.St) (env env2 : E3), (∀ i ∈ T.slots, i ∈ vs) → EnvR K w σ env → DpAll K w.h us ds → binds3 T ds env = some env2 →
    ∀ R : L2.St → Hp → Prop, (∀ σ', EnvR K w σ' env2 → wipe σ' vs = wipe σ vs → R σ' H) → gs2 K T us σ H R
  | .nil, [], us, σ, env, env2, hs, en, dp, hb, R, hR => by
    unfold binds3 at hb
    cases hb
    cases dp
    unfold gs2
    exact ⟨rfl, hR σ en rfl⟩
  | .cons t q, d :: ds, us, σ, env, env2, hs, en, dp, hb, R, hR => by
    unfold binds3 at hb
    cases h1 : bind3 t d env with
    | none => rw [h1] at hb; cases hb
    | some env1 =>
      rw [h1] at hb
      cases dp with
      | cons dp1 dp2 =>
        unfold gs2
        refine ⟨_, _, rfl, bind_low r vs t d _ σ env env1 (fun i hi => hs i (by unfold Tgs.slots; exact List.mem_append_left _ hi)) en dp1 h1 _ fun σ' en' hw => ?_⟩
        exact binds_low r vs q ds _ σ' env1 env2 (fun i hi => hs i (by unfold Tgs.slots; exact List.mem_append_right _ hi)) en' dp2 hb R fun σ'' en'' hw' => hR σ'' en'' (hw'.trans hw)
  | .nil, _ :: _, us, σ, env, env2, hs, en, dp, hb, R, hR => by simp [binds3] at hb
  | .cons _ _, [], us, σ, env, env2, hs, en, dp, hb, R, hR => by simp [binds3] at hb
theorem binds_len : ∀ (T : Tgs) (ds : List PyData) (env env2 : E3), binds3 T ds env = some env2 → ds.length = T.len
  | .nil, [], _, _, _ => rfl
  | .cons t q, d :: ds, env, env2, hb => by
    unfold binds3 at hb
    cases h1 : bind3 t d env with
    | none => rw [h1] at hb; cases hb
    | some env1 =>
      rw [h1] at hb
      show ds.length + 1 = q.len + 1
      rw [binds_len q ds env1 env2 hb]
  | .nil, _ :: _, env, env2, hb => by simp [binds3] at hb
  | .cons _ _, [], env, env2, hb => by simp [binds3] at hb
end
end
/-- target = e, a target of names -/
def tAsgT3 (te : TE3) (T : Tg) : TS3 := fun D env S => te env S fun x S1 => match x with
  | .p d => match bind3 T d env with
    | some env2 => D.nx env2 S1
    | none => False
  | _ => False
/-- name = e -/
def tSet3 (i : Nat) (te : TE3) : TS3 := fun D env S => te env S fun x S1 => D.nx (set3 env i x) S1
section
variable {X : Cx} {e tg : Expr} {te : TE3} {T : Tg} {pos : Pos}
theorem qs_asgT (he : QE X e te) (hg : QB X tg T) (hs : swapsWithSole [tg] e pos.line X.env = pure false := by rfl) (hw : swappedStores [tg] e X.env = pure none := by rfl)
    (h1 : (assignEach [tg] X.env).map (·.2) = [assign tg X.env] := by rfl) : QS X (.Assign [tg] e pos) (tAsgT3 te T) := (ps_asg he hg hs hw h1).imp fun D σ H ⟨w, env, S, D3, r, en, t, q⟩ => by
  refine ⟨w, env, S, _, r, en, t, fun w1 v d H1 S1 e1 r1 p1 t1 => ?_⟩
  cases d with
  | loc n | exc n => exact t1.elim
  | p d =>
    cases hb : bind3 T d env with
    | none =>
      simp only [hb] at t1
    | some env2 =>
      simp only [hb] at t1
      exact bind_low r1 T.slots T d v σ env env2 (fun _ h => h) (en.mono e1) p1 hb _ fun σ' en' _ => q.nx w1 σ' H1 env2 S1 e1 r1 en' t1
theorem qs_set {i : Nat} {x : Str} {pos' : Pos} (hN : X.N.Nodup) (hi : X.N[i]? = some x) (hx : Loc X.env.scope x) (he : QE X e te) (hs : swapsWith e (some (.Name x pos')) pos.line X.env = pure false := by rfl) (hf : X.fn x = true ∨ X.env.scope.names.lookup x = some .local := by first | exact .inl rfl | exact .inr rfl | assumption) :
    QS X (.Assign [.Name x pos'] e pos) (tSet3 i te) := (ps_set hN hi hx he hs hf).imp fun D σ H ⟨w, env, S, D3, r, en, t, q⟩ =>
  ⟨w, env, S, _, r, en, t, fun w1 v d H1 S1 e1 r1 p1 t1 => q.nx w1 _ H1 _ S1 e1 r1 ((en.mono e1).set i p1) t1⟩
/-- a, b = x, y -/
def tPr3 (i j : Nat) (ta : TA3) : TS3 := fun D env S => ta env S fun ds S1 => match ds with
  | [x, y] => D.nx (set3 (set3 env i x) j y) S1
  | _ => False
theorem qs_par {i j : Nat} {x y : Str} {a b : Expr} {ta : TA3} {px py pt : Pos} {kt k2 pt2} (hc : X.calm = true) (hN : X.N.Nodup) (hi : X.N[i]? = some x) (hj : X.N[j]? = some y) (hij : i ≠ j)
    (hx : X.env.scope.names.lookup x = some .local) (hy : X.env.scope.names.lookup y = some .local) (ha : QA X [a, b] ta)
    (hw : swappedStores [.Tuple [.Name x px, .Name y py] kt pt] (.Tuple [a, b] k2 pt2) X.env = pure (some [x, y]))
    (hs : swapsWithSole [.Tuple [.Name x px, .Name y py] kt pt] (.Tuple [a, b] k2 pt2) pos.line X.env = pure false := by rfl) :
    QS X (.Assign [.Tuple [.Name x px, .Name y py] kt pt] (.Tuple [a, b] k2 pt2) pos) (tPr3 i j ta) := (ps_par hc hN hi hj hij hx hy ha hw hs).imp fun D σ H ⟨w, env, S, D3, r, en, t, q⟩ => by
  refine ⟨w, env, S, _, r, en, t, fun w1 vs ds H1 S1 e1 r1 p1 t1 => ?_⟩
  match vs, ds, p1, t1 with
  | [v, u], [x, y], p1, t1 =>
    exact ⟨v, u, rfl, q.nx w1 _ H1 _ S1 e1 r1 (((en.mono e1).set i p1.1).set j p1.2.1) t1⟩
  | [], [x, y], p1, _ => exact p1.elim
  | [_], [x, y], p1, _ => exact p1.2.elim
  | _ :: _ :: _ :: _, [x, y], p1, _ => exact p1.2.2.elim
end

/-! ### what a loop walks -/
def tSeqI3 (te : TE3) : TI3 := fun env S Q => te env S fun x S1 => match x with
  | .p (.list ds) => Q ds (fun _ => True) S1
  | .p (.tuple ds) => Q ds (fun _ => True) S1
  | .loc n => ∃ ds, S1[n]? = some (some (.lst ds)) ∧ Q ds (fun S => S[n]? = some (some (.lst ds))) S1
  | _ => False
def rng (lo : Int) (n : Nat) : List PyData := (List.range n).map fun i => .int (lo + (i : Nat))
theorem rng_get {lo : Int} {n i : Nat} {x : PyData} (h : (rng lo n)[i]? = some x) : i < n ∧ x = .int (lo + (i : Nat)) := by
  unfold rng at h
  rw [List.getElem?_map] at h
  cases q : (List.range n)[i]? with
  | none => rw [q] at h; cases h
  | some j =>
    rw [q] at h
    cases h
    obtain ⟨h1, h2⟩ := List.getElem?_eq_some_iff.mp q
    rw [List.getElem_range] at h2
    rw [List.length_range] at h1
    exact ⟨h1, by rw [h2]⟩
theorem rng_len (lo : Int) (n : Nat) : (rng lo n).length = n := by unfold rng; rw [List.length_map, List.length_range]
def tRng1 (ta : TA3) : TI3 := fun env S Q => ta env S fun ds S1 => match ds with
  | [.p (.int n)] => (-4611686018427387904 ≤ n ∧ n ≤ 16777216) ∧ Q (rng 0 n.toNat) (fun _ => True) S1
  | _ => False
def tRng2 (ta : TA3) : TI3 := fun env S Q => ta env S fun ds S1 => match ds with
  | [.p (.int a), .p (.int b)] => (-16777216 ≤ a ∧ a ≤ 16777216 ∧ -16777216 ≤ b ∧ b ≤ 16777216 ∧ b - a ≤ 16777216) ∧ Q (rng a (b - a).toNat) (fun _ => True) S1
  | _ => False
/-- lists of pairs -/
def zip3 (xs ys : List PyData) : List PyData := (xs.zip ys).map fun p => .tuple [p.1, p.2]
def enum3 (xs : List PyData) : List PyData := xs.zipIdx.map fun p => .tuple [.int (p.2 : Nat), p.1]
section
variable {K : PySem.W.Frag} {w : W3} {H : Hp} {S : S3}
theorem itr_list {a : Addr} {ds : List PyData} (h : Dp K w.h (.ref a) (.list ds)) : ItR K w (Itl K a) ds fun _ => True := fun w' H S e r _ => by
  have h' := dp_mono e.h _ _ h
  cases h' with
  | lst hq ha =>
    have hl := DpAll.length ha
    have hq' := L2.Same.seq r.sub hq
    refine ⟨fun i hi => ⟨_, hq', by omega⟩, fun i x hx => ?_⟩
    obtain ⟨v, h1, h2⟩ := DpAll.get ha hx
    refine ⟨⟨_, v, hq', h1⟩, fun u H' y => ?_⟩
    obtain ⟨rfl, y⟩ := y
    have := (y _ hq').symm.trans h1
    cases this
    exact ⟨w', Ex3.refl _, r, h2⟩
theorem itr_tup {a : Addr} {ds : List PyData} (h : Dp K w.h (.ref a) (.tuple ds)) : ItR K w (Itt K a) ds fun _ => True := fun w' H S e r _ => by
  have h' := dp_mono e.h _ _ h
  cases h' with
  | tup hq ha =>
    have hl := DpAll.length ha
    have hq' := Same.sqT r.sub hq
    refine ⟨fun i hi => ⟨_, hq', by omega⟩, fun i x hx => ?_⟩
    obtain ⟨v, h1, h2⟩ := DpAll.get ha hx
    refine ⟨⟨_, v, hq', h1⟩, fun u H' y => ?_⟩
    obtain ⟨rfl, y⟩ := y
    have := (y _ hq').symm.trans h1
    cases this
    exact ⟨w', Ex3.refl _, r, h2⟩
theorem itr_loc {a : Addr} {n : Nat} {ds : List PyData} (ha : w.al[n]? = some a) : ItR K w (Itl K a) ds fun S => S[n]? = some (some (.lst ds)) := fun w' H S e r hs => by
  obtain ⟨_, u, hu, xs, rfl, hd, _⟩ := r.live n a _ (e.get ha) hs
  have hl := DpAll.length hd
  have hq : SqL K H a xs := .inl (.inl hu)
  refine ⟨fun i hi => ⟨_, hq, by omega⟩, fun i x hx => ?_⟩
  obtain ⟨v, h1, h2⟩ := DpAll.get hd hx
  refine ⟨⟨_, v, hq, h1⟩, fun u H' y => ?_⟩
  obtain ⟨rfl, y⟩ := y
  have := (y _ hq).symm.trans h1
  cases this
  exact ⟨w', Ex3.refl _, r, h2⟩
theorem itr_rng {lo : Int} {n : Nat} : ItR K w (Itr lo n) (rng lo n) fun _ => True := fun w' H S e r _ => by
  refine ⟨fun i hi => by rw [rng_len] at hi; exact hi, fun i x hx => ?_⟩
  obtain ⟨h1, rfl⟩ := rng_get hx
  refine ⟨h1, fun v H' y => ?_⟩
  obtain ⟨rfl, rfl⟩ := y
  exact ⟨w', Ex3.refl _, r, .int _⟩
theorem len_list {a : Addr} {ds : List PyData} (r : Rel3 K w H S) (h : Dp K w.h (.ref a) (.list ds)) : ds.length ≤ sizeLine := by
  cases h with
  | lst hq ha =>
    rw [← DpAll.length ha]
    exact r.szL hq
theorem len_tup {a : Addr} {ds : List PyData} (r : Rel3 K w H S) (h : Dp K w.h (.ref a) (.tuple ds)) : ds.length ≤ sizeLine := by
  cases h with
  | tup hq ha =>
    rw [← DpAll.length ha]
    exact r.szT hq
theorem dp_list_ref {h : Hp} {v : V} {ds : List PyData} (q : Dp K h v (.list ds)) : ∃ a xs, v = .ref a ∧ SqL K h a xs ∧ DpAll K h xs ds := by
  cases q with
  | lst hq ha => exact ⟨_, _, rfl, hq, ha⟩
theorem dp_tup_ref {h : Hp} {v : V} {ds : List PyData} (q : Dp K h v (.tuple ds)) : ∃ a xs, v = .ref a ∧ SqT K h a xs ∧ DpAll K h xs ds := by
  cases q with
  | tup hq ha => exact ⟨_, _, rfl, hq, ha⟩
end
section
variable {X : Cx} {tg l a b : Expr} {te : TE3} {ta : TA3} {p pos : Pos}
/-- a list or a tuple, walked -/
def iSeq (K : PySem.W.Frag) (tl : TE) : TI := fun σ H R => tl σ H fun x H1 => ∃ a, x = .ref a ∧ (((∃ xs, SqL K H1 a xs) ∧ R (Itl K a) H1) ∨ ((∃ xs, SqT K H1 a xs) ∧ R (Itt K a) H1))
theorem pi_seq {tl : TE} (hl : PE X l tl) : PI X tg l (iSeq X.K tl) := by
  refine ⟨fun pins s σ H R I h => ?_⟩
  refine thn (hl.run pins s σ H _ I h) fun v s1 ⟨x, H1, I1, r1, q1⟩ => ?_
  obtain ⟨a, e, q1⟩ := q1
  subst e
  cases r1
  rcases q1 with ⟨⟨xs, hq⟩, q⟩ | ⟨⟨xs, hq⟩, q⟩
  · obtain ⟨its, rv, p, hz⟩ := I1.list hq
    refine wpAny_pyIter_list p.isList ?_
    refine ⟨s1.heap.objs.size, [s1.heap.objs.size], _, _, H1, rfl, I1.kept (t' := s1.toks) fun b o e => Heap.get?_push_of_some _ e, turn_list a _, ⟨_, Heap.get?_push_size _ rfl, rfl, rfl⟩, fun b hb => ?_, q⟩
    have e : b = s1.heap.objs.size := by simpa using hb
    subst e
    exact I1.fpOk (Nat.le_refl _) (I1.hok.fresh (Nat.le_refl _))
  · obtain ⟨its, rv, p, hz⟩ := I1.tuple hq
    refine wpAny_pyIter_tuple (show s1.heap.IsTuple a its.toArray from p) ?_
    refine ⟨s1.heap.objs.size, [s1.heap.objs.size], _, _, H1, rfl, I1.kept (t' := s1.toks) fun b o e => Heap.get?_push_of_some _ e, turn_tuple a _, ⟨_, Heap.get?_push_size _ rfl, rfl, rfl⟩, fun b hb => ?_, q⟩
    have e : b = s1.heap.objs.size := by simpa using hb
    subst e
    exact I1.fpOk (Nat.le_refl _) (I1.hok.fresh (Nat.le_refl _))
theorem qi_seq (hl : QE X l te) : QI X tg l (tSeqI3 te) := (pi_seq hl).imp fun σ H R ⟨w, env, S, Q, r0, en, t, q⟩ => by
  refine ⟨w, env, S, _, r0, en, t, fun w1 v d H1 S1 e1 r1 p1 t1 => ?_⟩
  match d, p1, t1 with
  | .p (.list ds), p1, t1 =>
    obtain ⟨a, xs, rfl, hq, ha⟩ := dp_list_ref p1
    exact ⟨a, rfl, .inl ⟨⟨xs, L2.Same.seq r1.sub hq⟩, q w1 _ H1 S1 ds _ e1 r1 (itr_list p1) (len_list r1 p1) t1⟩⟩
  | .p (.tuple ds), p1, t1 =>
    obtain ⟨a, xs, rfl, hq, ha⟩ := dp_tup_ref p1
    exact ⟨a, rfl, .inr ⟨⟨xs, Same.sqT r1.sub hq⟩, q w1 _ H1 S1 ds _ e1 r1 (itr_tup p1) (len_tup r1 p1) t1⟩⟩
  | .loc n, p1, t1 =>
    obtain ⟨ds, hs, t1⟩ := t1
    obtain ⟨a, ha, rfl⟩ := p1
    obtain ⟨_, u, hu, xs, rfl, hd, hz⟩ := r1.live n a _ ha hs
    exact ⟨a, rfl, .inl ⟨⟨xs, .inl (.inl hu)⟩, q w1 _ H1 S1 ds _ e1 r1 (itr_loc ha) hz t1⟩⟩
theorem qi_range1 (hg : Gl X "range") (hm : X.mg "range" = none) (ha : QA X [a] ta) (hs : starEach [a] X.env = [(false, eval a X.env)] := by rfl) : QI X tg (.Call (.Name "range" p) [a] [] pos) (tRng1 ta) := (pi_range1 hg hm ha hs).imp fun σ H R ⟨w, env, S, Q, r0, en, t, q⟩ => by
  refine ⟨w, env, S, _, r0, en, t, fun w1 vs ds H1 S1 e1 r1 p1 t1 => ?_⟩
  match vs, ds, p1, t1 with
  | [v], [.p (.int n)], p1, t1 =>
    have := dp_int p1.1
    subst this
    have hz : sizeLine = 16777216 := sizeLine_eq
    refine ⟨n, rfl, by omega, by omega, q w1 _ H1 S1 _ _ e1 r1 itr_rng (by rw [rng_len]; omega) t1.2⟩
  | [], [.p (.int n)], p1, _ => exact p1.elim
  | _ :: _ :: _, [.p (.int n)], p1, _ => exact p1.2.elim
theorem qi_range2 (hg : Gl X "range") (hm : X.mg "range" = none) (ha : QA X [a, b] ta) (hs : starEach [a, b] X.env = [(false, eval a X.env), (false, eval b X.env)] := by rfl) (hs2 : starEach [b] X.env = [(false, eval b X.env)] := by rfl) : QI X tg (.Call (.Name "range" p) [a, b] [] pos) (tRng2 ta) := (pi_range2 hg hm ha hs hs2).imp fun σ H R ⟨w, env, S, Q, r0, en, t, q⟩ => by
  refine ⟨w, env, S, _, r0, en, t, fun w1 vs ds H1 S1 e1 r1 p1 t1 => ?_⟩
  match vs, ds, p1, t1 with
  | [v, u], [.p (.int n), .p (.int m)], p1, t1 =>
    have := dp_int p1.1
    subst this
    have := dp_int p1.2.1
    subst this
    have hz : sizeLine = 16777216 := sizeLine_eq
    refine ⟨n, m, rfl, by omega, q w1 _ H1 S1 _ _ e1 r1 itr_rng (by rw [rng_len]; omega) t1.2⟩
  | [], [.p (.int n), .p (.int m)], p1, _ => exact p1.elim
  | [_], [.p (.int n), .p (.int m)], p1, _ => exact p1.2.elim
  | _ :: _ :: _ :: _, [.p (.int n), .p (.int m)], p1, _ => exact p1.2.2.elim
end

/-! ### loops -/
def below (L : Nat) : D → Prop
  | .loc n => n < L
  | _ => True
/-- slots are forgotten, the store's last objects too -/
def Fits (env env' : E3) (L : Nat) : Prop := env'.length = env.length ∧ ∀ i d, at3 env' i = some d → at3 env i = some d ∧ below L d
def Wk (n : Nat) (I : E3 → S3 → Prop) : E3 → S3 → Prop := fun env S => I env S ∨ ∃ L env', n ≤ L ∧ Fits env env' L ∧ I env' (S.take L)
theorem wk_low {K : PySem.W.Frag} {w w' : W3} {H : Hp} {S : S3} {σ : L2.St} {env : E3} {n : Nat} {I : E3 → S3 → Prop} (hn : w.al.length ≤ n) (e : Ex3 w w') (r : Rel3 K w' H S) (en : EnvR K w' σ env) (h : Wk n I env S) :
    ∃ w2 env2 S2, Ex3 w w2 ∧ Rel3 K w2 H S2 ∧ EnvR K w2 σ env2 ∧ I env2 S2 := by
  rcases h with h | ⟨L, env', hL, hf, h⟩
  · exact ⟨w', env, S, e, r, en, h⟩
  · refine ⟨⟨w'.al.take L, w'.h, w'.pn⟩, env', _, ⟨⟨?_, e.h⟩, e.pn⟩, r.shrink L, ⟨en.1.trans hf.1.symm, fun i d hd => ?_⟩, h⟩
    · obtain ⟨t, ht⟩ := e.al
      refine ⟨t.take (L - w.al.length), ?_⟩
      show w'.al.take L = _
      rw [ht, List.take_append, List.take_of_length_le (by omega)]
    · obtain ⟨h1, h2⟩ := hf.2 i d hd
      obtain ⟨v, h3, h4⟩ := en.2 i d h1
      refine ⟨v, h3, ?_⟩
      cases d with
      | p d => exact h4
      | exc c => exact h4
      | loc m =>
        obtain ⟨a, h5, h6⟩ := h4
        exact ⟨a, by show (w'.al.take L)[m]? = _; rw [List.getElem?_take_of_lt h2]; exact h5, h6⟩
def tFor3 (ti : TI3) (T : Tg) (tb : TS3) : TS3 := fun D env S => ti env S fun xs ok S1 => ∃ I : Nat → E3 → S3 → Prop, I 0 env S1 ∧ (∀ i e s, I i e s → ok s) ∧
  (∀ i x e s, xs[i]? = some x → I i e s → match bind3 T x e with
    | some e2 => tb { D with nx := Wk S1.length (I (i + 1)), ct := Wk S1.length (I (i + 1)), bk := D.nx } e2 s
    | none => False) ∧ ∀ e s, I xs.length e s → D.nx e s
section
variable {X : Cx} {tg iter : Expr} {body : List Stmt} {ti : TI3} {T : Tg} {tb : TS3} {tc : TT3} {c : Expr} {pos : Pos}
theorem qs_for (hp : PassesOwn (model X.prog X.w) X.A X.env X.xe) (hc : X.calm = true) (hi : QI X tg iter ti) (hg : QB X tg T) (hb : QSs X body tb)
    (hs : ∀ x, foldedSetIterable iter X.env x = pure x := by intro _; rfl) : QS X (.For tg iter body [] pos) (tFor3 ti T tb) := (ps_for hp hc hi hg hb hs).imp fun D σ H ⟨w, env, S, D3, r0, en, t, q⟩ => by
  refine ⟨w, env, S, _, r0, en, t, fun w1 J H1 S1 xs ok e1 r1 hJ hz t1 => ?_⟩
  obtain ⟨I, h0, hok, hs, hd⟩ := t1
  refine ⟨fun i m σ H => i ≤ xs.length ∧ m = xs.length - i ∧ ∃ w2 e s, Ex3 w1 w2 ∧ Rel3 X.K w2 H s ∧ EnvR X.K w2 σ e ∧ I i e s, ⟨_, Nat.zero_le _, rfl, w1, env, S1, Ex3.refl _, r1, en.mono e1, h0⟩, ?_⟩
  rintro i m σ2 H2 ⟨hi, rfl, w2, e, s, e2, r2, en2, h2⟩
  obtain ⟨hstop, hgo⟩ := hJ w2 H2 s e2.toEx0 r2 (hok i e s h2)
  by_cases hlt : i < xs.length
  · obtain ⟨go, hy⟩ := hgo i xs[i] (List.getElem?_eq_getElem hlt)
    refine .inr ⟨go, fun σ' H' => ∃ w' e' s', Ex3 w1 w' ∧ Rel3 X.K w' H' s' ∧ EnvR X.K w' σ' e' ∧ I (i + 1) e' s', fun σ' H' ⟨w', e', s', a1, a2, a3, a4⟩ => ⟨xs.length - (i + 1), by omega, hlt, rfl, w', e', s', a1, a2, a3, a4⟩, fun x H' y => ?_⟩
    obtain ⟨w3, e3, r3, d3⟩ := hy x H' y
    have step := hs i xs[i] e s (List.getElem?_eq_getElem hlt) h2
    cases hbd : bind3 T xs[i] e with
    | none => rw [hbd] at step; exact step.elim
    | some env3 =>
      rw [hbd] at step
      refine bind_low r3 T.slots T xs[i] x σ2 e env3 (fun _ h => h) (en2.mono e3) d3 hbd _ fun σ3 en3 _ => ?_
      have back : EndN X.K w3 (Wk S1.length (I (i + 1))) fun σ' H' => ∃ w' e' s', Ex3 w1 w' ∧ Rel3 X.K w' H' s' ∧ EnvR X.K w' σ' e' ∧ I (i + 1) e' s' := fun w4 σ4 H4 e4 s4 x4 r4 en4 h4 => by
        obtain ⟨w5, e5, s5, a1, a2, a3, a4⟩ := wk_low (w := w1) (by rw [r1.len]; exact Nat.le_refl _) ((e2.trans e3).trans x4) r4 en4 h4
        exact ⟨w5, e5, s5, a1, a2, a3, a4⟩
      exact ⟨w3, env3, s, _, r3, en3, step, ⟨back, q.rt.mono (((e1.trans e2).trans e3)), q.nx.mono (((e1.trans e2).trans e3)), back⟩⟩
  · have e' : i = xs.length := by omega
    subst e'
    exact .inl ⟨hstop _ (Nat.le_refl _), q.nx w2 σ2 H2 e s (e1.trans e2) r2 en2 (hd e s h2)⟩
def tWhile3 (tc : TT3) (tb : TS3) : TS3 := fun D env S => ∃ I : Nat → E3 → S3 → Prop, (∃ m, I m env S) ∧ ∀ m e s, I m e s → tc e s fun b s1 =>
  if b = true then tb { D with nx := Wk S.length fun e' s' => ∃ m', m' < m ∧ I m' e' s', ct := Wk S.length fun e' s' => ∃ m', m' < m ∧ I m' e' s', bk := D.nx } e s1 else D.nx e s1
theorem qs_while (hp : PassesOwn (model X.prog X.w) X.A X.env X.xe) (hc : QT X c tc) (hb : QSs X body tb) : QS X (.While c body [] pos) (tWhile3 tc tb) := (ps_while hp hc hb).imp fun D σ H ⟨w, env, S, D3, r0, en, t, q⟩ => by
  obtain ⟨I, ⟨m0, h0⟩, ht⟩ := t
  refine ⟨fun m σ H => ∃ w2 e s, Ex3 w w2 ∧ Rel3 X.K w2 H s ∧ EnvR X.K w2 σ e ∧ I m e s, ⟨m0, w, env, S, Ex3.refl _, r0, en, h0⟩, ?_⟩
  rintro m σ2 H2 ⟨w2, e, s, e2, r2, en2, h2⟩
  refine ⟨w2, e, s, _, r2, en2, ht m e s h2, fun w3 b H3 S3 e3 r3 t3 => ?_⟩
  cases b with
  | true =>
    rw [if_pos rfl] at t3 ⊢
    refine ⟨fun σ' H' => ∃ m', m' < m ∧ ∃ w' e' s', Ex3 w w' ∧ Rel3 X.K w' H' s' ∧ EnvR X.K w' σ' e' ∧ I m' e' s', fun σ' H' h => h, ?_⟩
    have back : EndN X.K w3 (Wk S.length fun e' s' => ∃ m', m' < m ∧ I m' e' s') fun σ' H' => ∃ m', m' < m ∧ ∃ w' e' s', Ex3 w w' ∧ Rel3 X.K w' H' s' ∧ EnvR X.K w' σ' e' ∧ I m' e' s' := fun w4 σ4 H4 e4 s4 x4 r4 en4 h4 => by
      obtain ⟨w5, e5, s5, a1, a2, a3, m', hm, a4⟩ := wk_low (w := w) (by rw [r0.len]; exact Nat.le_refl _) ((e2.trans e3).trans x4) r4 en4 h4
      exact ⟨m', hm, w5, e5, s5, a1, a2, a3, a4⟩
    exact ⟨w3, e, S3, _, r3, en2.mono e3, t3, ⟨back, q.rt.mono (e2.trans e3), q.nx.mono (e2.trans e3), back⟩⟩
  | false =>
    rw [if_neg Bool.false_ne_true] at t3 ⊢
    exact q.nx w3 σ2 H3 e S3 (e2.trans e3) r3 (en2.mono e3) t3
end

/-! ### comprehensions -/
def wipe3 (env : E3) : List Nat → E3
  | [] => env
  | v :: vs => clr (wipe3 env vs) v
where clr : E3 → Nat → E3
  | [], _ => []
  | _ :: r, 0 => none :: r
  | x :: r, n + 1 => x :: clr r n
theorem clr_length : ∀ (env : E3) (i : Nat), (wipe3.clr env i).length = env.length
  | [], _ => rfl
  | _ :: _, 0 => rfl
  | _ :: r, n + 1 => congrArg (· + 1) (clr_length r n)
theorem clr_at : ∀ (env : E3) (i j : Nat) (d : D), at3 (wipe3.clr env i) j = some d → at3 env j = some d ∧ j ≠ i
  | [], i, j, d, h => by simp [wipe3.clr, at3] at h
  | x :: r, 0, 0, d, h => by simp [wipe3.clr, at3] at h
  | x :: r, 0, j + 1, d, h => ⟨h, by simp⟩
  | x :: r, i + 1, 0, d, h => ⟨h, by simp⟩
  | x :: r, i + 1, j + 1, d, h => by
    obtain ⟨h1, h2⟩ := clr_at r i j d h
    exact ⟨h1, by omega⟩
theorem wipe3_length (env : E3) : ∀ vs, (wipe3 env vs).length = env.length
  | [] => rfl
  | v :: vs => by unfold wipe3; rw [clr_length, wipe3_length env vs]
theorem wipe3_at (env : E3) : ∀ (vs : List Nat) (j : Nat) (d : D), at3 (wipe3 env vs) j = some d → at3 env j = some d ∧ j ∉ vs
  | [], j, d, h => ⟨h, by simp⟩
  | v :: vs, j, d, h => by
    unfold wipe3 at h
    obtain ⟨h1, h2⟩ := clr_at _ _ _ _ h
    obtain ⟨h3, h4⟩ := wipe3_at env vs j d h1
    exact ⟨h3, by simp only [List.mem_cons, not_or]; exact ⟨h2, h4⟩⟩
theorem EnvR.wipe {K : PySem.W.Frag} {w : W3} {σ : L2.St} {env : E3} (h : EnvR K w σ env) (vs : List Nat) : EnvR K w (wipe σ vs) (wipe3 env vs) := by
  refine ⟨by rw [wipe_length, wipe3_length]; exact h.1, fun i d q => ?_⟩
  obtain ⟨h1, h2⟩ := wipe3_at env vs i d q
  obtain ⟨v, h3, h4⟩ := h.2 i d h1
  refine ⟨v, ?_, h4⟩
  rw [wipe_out h2]
  exact h3
def tLc3 (ti : TI3) (T : Tg) (tt : TT3) (te : TE3) (vs : List Nat) : TN3 := fun env S Q => ti env S fun xs ok S1 => ∃ I : Nat → List PyData → S3 → Prop, I 0 [] S1 ∧ (∀ i acc s, I i acc s → ok s) ∧
  (∀ i x acc s, xs[i]? = some x → I i acc s → match bind3 T x (wipe3 env vs) with
    | some e2 => tt e2 s fun b s1 => if b = true then te e2 s1 fun y s2 => match y with
        | .p d => I (i + 1) (acc ++ [d]) s2
        | _ => False
      else I (i + 1) acc s1
    | none => False) ∧ ∀ acc s, I xs.length acc s → Q acc s
def tYes3 : TT3 := fun _ S Q => Q true S
theorem lc_low {K : PySem.W.Frag} {ti : TI3} {T : Tg} {tt : TT3} {te : TE3} {vs : List Nat} {σ : L2.St} {H : Hp} {R : VK} (hv : ∀ i ∈ T.slots, i ∈ vs) (h : lowN K (tLc3 ti T tt te vs) σ H R) : tLc (lowI K ti) (g2 K T) (lowT K tt) (low K te) vs σ H R := by
  obtain ⟨w, env, S, Q, r0, en, t, q⟩ := h
  refine ⟨w, env, S, _, r0, en, t, fun w1 J H1 S1 xs ok e1 r1 hJ hz t1 => fun D hD => ?_⟩
  obtain ⟨I, h0, hok, hs, hd⟩ := t1
  refine ⟨fun i m H => i ≤ xs.length ∧ m = xs.length - i ∧ ∃ al h s acc ys, Ex0 w1 ⟨al, h, (D, .lst ys) :: w1.pn⟩ ∧ Rel3 K ⟨al, h, (D, .lst ys) :: w1.pn⟩ H s ∧ DpAll K h ys acc ∧ acc.length ≤ i ∧ I i acc s,
    ⟨_, Nat.zero_le _, rfl, w1.al, w1.h, S1, [], [], ⟨⟨[], by simp⟩, Same.refl _⟩, r1.pinNew hD, .nil, Nat.le_refl _, h0⟩, ?_⟩
  rintro i m H2 ⟨hi, rfl, al, h, s, acc, ys, e2, r2, da, hacc, h2⟩
  obtain ⟨hstop, hgo⟩ := hJ _ H2 s e2 r2 (hok i acc s h2)
  by_cases hlt : i < xs.length
  · obtain ⟨go, hy⟩ := hgo i xs[i] (List.getElem?_eq_getElem hlt)
    refine .inr ⟨go, fun H' => ∃ al h s acc ys, Ex0 w1 ⟨al, h, (D, .lst ys) :: w1.pn⟩ ∧ Rel3 K ⟨al, h, (D, .lst ys) :: w1.pn⟩ H' s ∧ DpAll K h ys acc ∧ acc.length ≤ i + 1 ∧ I (i + 1) acc s,
      fun H' ⟨al, h, s, acc, ys, a1, a2, a3, a4, a5⟩ => ⟨xs.length - (i + 1), by omega, hlt, rfl, al, h, s, acc, ys, a1, a2, a3, a4, a5⟩, fun x H' y => ?_⟩
    obtain ⟨w3, e3, r3, d3⟩ := hy x H' y
    have step := hs i xs[i] acc s (List.getElem?_eq_getElem hlt) h2
    cases hbd : bind3 T xs[i] (wipe3 env vs) with
    | none => rw [hbd] at step; exact step.elim
    | some env3 =>
      rw [hbd] at step
      have en3 : EnvR K w3 (wipe σ vs) (wipe3 env vs) := (((en.mono e1).mono0 e2).mono e3).wipe vs
      refine bind_low r3 vs T xs[i] x _ _ env3 hv en3 d3 hbd _ fun σ3 en4 hw => ⟨?_, ?_⟩
      · have ww : ∀ vs' : List Nat, (∀ i ∈ vs', i ∈ vs) → wipe (wipe σ vs) vs' = wipe σ vs := by
          intro vs'
          induction vs' with
          | nil => intro _; rfl
          | cons v vs' ih =>
            intro hsub
            show (wipe (wipe σ vs) vs').set v none = wipe σ vs
            rw [ih fun i hi => hsub i (List.mem_cons_of_mem _ hi)]
            have : ∀ (vs : List Nat), v ∈ vs → (wipe σ vs).set v none = wipe σ vs := by
              intro vs
              induction vs with
              | nil => intro h; cases h
              | cons u vs ih =>
                intro hm
                show ((wipe σ vs).set u none).set v none = (wipe σ vs).set u none
                by_cases e : v = u
                · subst e
                  rw [List.set_set]
                · have hm' : v ∈ vs := (List.mem_cons.mp hm).resolve_left e
                  rw [List.set_comm _ _ (Ne.symm e), ih hm']
            exact this vs (hsub v List.mem_cons_self)
        exact hw.trans (ww vs fun _ h => h)
      · refine ⟨w3, env3, s, _, r3, en4, step, fun w4 b H4 s4 e4 r4 t4 => ?_⟩
        obtain ⟨al4, h4, pn4⟩ := w4
        have hpn : pn4 = (D, .lst ys) :: w1.pn := by
          have a := e4.pn
          have b := e3.pn
          exact a.trans b
        subst hpn
        have e24 : Ex0 w1 ⟨al4, h4, (D, .lst ys) :: w1.pn⟩ := (e2.trans e3.toEx0).trans e4.toEx0
        cases b with
        | false =>
          rw [if_neg Bool.false_ne_true] at t4 ⊢
          exact ⟨al4, h4, s4, acc, ys, e24, r4, dpAll_mono (e3.h.trans e4.h) acc ys da, by omega, t4⟩
        | true =>
          rw [if_pos rfl] at t4 ⊢
          refine ⟨_, env3, s4, _, r4, en4.mono e4, t4, fun w5 v d H5 s5 e5 r5 p5 t5 => ?_⟩
          obtain ⟨al5, h5, pn5⟩ := w5
          have hpn : pn5 = (D, .lst ys) :: w1.pn := e5.pn
          subst hpn
          cases d with
          | loc n | exc n => exact t5.elim
          | p d =>
            have hl := DpAll.length da
            refine ⟨ys, (r5.pin D _ List.mem_cons_self).1, by omega, al5, h5, s5, acc ++ [d], ys ++ [v], ?_, r5.repin, ?_, ?_, t5⟩
            · exact ⟨(e24.trans e5.toEx0).al, (e24.trans e5.toEx0).h⟩
            · exact DpAll.append (dpAll_mono ((e3.h.trans e4.h).trans e5.h) acc ys da) (.cons p5 .nil)
            · rw [List.length_append, List.length_singleton]
              omega
  · have e' : i = xs.length := by omega
    subst e'
    obtain ⟨r3, hdn, hup⟩ := r2.unpin
    refine .inl ⟨hstop _ (Nat.le_refl _), ?_⟩
    rw [← hup]
    refine q ⟨al, h, w1.pn⟩ D ys acc _ s (e1.trans ⟨⟨e2.al, e2.h⟩, rfl⟩) r3 hdn da ?_ (hd acc s h2)
    omega
section
variable {X : Cx} {elt tg iter : Expr} {ifs : List Expr} {scope : Scope} {own : List (Str × Nat)} {pos : Pos} {ti : TI3} {T : Tg} {tt : TT3} {te : TE3}
abbrev QTs (X : Cx) (ifs : List Expr) (t : TT3) : Prop := PTs X ifs (lowT X.K t)
theorem qts_nil : QTs X [] tYes3 := ⟨fun pins s σ H Q I ⟨w, env, S, Q3, r0, en, t, q⟩ => pts_nil.run pins s σ H Q I (q w true H S (Ex3.refl w) r0 t)⟩
theorem qts_one {c : Expr} {t : TT3} (h : QT X c t) : QTs X [c] t := pts_one h
theorem qn_lc (hc : X.calm = true) (hN : X.N.Nodup) (hi : QI X tg iter ti) (ok : BlkOk X.N X.env.scope scope own)
    (hg : ∀ (s : Shared) (H : Hp) (C : Addr) (cl : List (Str × Addr)) (fp : List Addr), QB (X.blk s H scope (compEnvC scope cl C X.env) fp) tg T) (ht : ∀ (s : Shared) (H : Hp) (C : Addr) (cl : List (Str × Addr)) (fp : List Addr), QTs (X.blk s H scope (compEnvC scope cl C X.env) fp) ifs tt)
    (he : ∀ (s : Shared) (H : Hp) (C : Addr) (cl : List (Str × Addr)) (fp : List Addr), QE (X.blk s H scope (compEnvC scope cl C X.env) fp) elt te) (hv : ∀ i ∈ T.slots, i ∈ own.map (·.2) := by decide) (hs : ∀ x, foldedSetIterable iter X.env x = pure x := by intro _; rfl) :
    QN X (.ListComp elt [⟨tg, iter, ifs, 0⟩] scope pos) (tLc3 ti T tt te (own.map (·.2))) := (pe_lc hc hN hi ok hg ht he hs).imp fun σ H R h => lc_low hv h
/-- name = [..], the name a local -/
theorem qs_setLcP {i : Nat} {y : Str} {py spos : Pos} (hc : X.calm = true) (hN : X.N.Nodup) (hy : X.N[i]? = some y) (hyl : X.env.scope.names.lookup y = some .local)
    (hsw : swapsWith (.ListComp elt [⟨tg, iter, ifs, 0⟩] scope pos) (some (.Name y py)) spos.line X.env = pure true) (hi : QI X tg iter ti) (ok : BlkOk X.N X.env.scope scope own)
    (hg : ∀ (s : Shared) (H : Hp) (C : Addr) (cl : List (Str × Addr)) (fp : List Addr), QB (X.blk s H scope (compEnvC scope cl C X.env) fp) tg T) (ht : ∀ (s : Shared) (H : Hp) (C : Addr) (cl : List (Str × Addr)) (fp : List Addr), QTs (X.blk s H scope (compEnvC scope cl C X.env) fp) ifs tt)
    (he : ∀ (s : Shared) (H : Hp) (C : Addr) (cl : List (Str × Addr)) (fp : List Addr), QE (X.blk s H scope (compEnvC scope cl C X.env) fp) elt te) (hv : ∀ i ∈ T.slots, i ∈ own.map (·.2) := by decide) (hs : ∀ x, foldedSetIterable iter X.env x = pure x := by intro _; rfl) :
    QS X (.Assign [.Name y py] (.ListComp elt [⟨tg, iter, ifs, 0⟩] scope pos) spos) (tSet3 i (tPure (tLc3 ti T tt te (own.map (·.2))))) := (ps_setLc hc hN hy hyl hsw hi ok hg ht he hs).imp fun D σ H ⟨w, env, S, D3, r0, en, t, q⟩ => by
  refine lc_low (R := fun x H1 => gName i x σ H1 D.nx) hv ⟨w, env, S, _, r0, en, t, fun w1 p xs ds H1 S1 e1 r1 hn ha hz t1 => ?_⟩
  have hl := DpAll.length ha
  obtain ⟨r2, e2⟩ := r1.frz (u := .lst xs) hn (by show xs.length ≤ _; rw [hl]; exact hz)
  exact q.nx _ _ _ _ S1 (e1.trans e2) r2 (((en.mono e1).mono e2).set (d := .p (.list ds)) i (Dp.lst (.inl (.inl upd_same)) (dpAll_mono e2.h ds xs ha))) t1
theorem qs_setLcO {i : Nat} {y : Str} {py spos : Pos} (hc : X.calm = true) (hN : X.N.Nodup) (hy : X.N[i]? = some y) (hyl : X.env.scope.names.lookup y = some .local)
    (hsw : swapsWith (.ListComp elt [⟨tg, iter, ifs, 0⟩] scope pos) (some (.Name y py)) spos.line X.env = pure true) (hi : QI X tg iter ti) (ok : BlkOk X.N X.env.scope scope own)
    (hg : ∀ (s : Shared) (H : Hp) (C : Addr) (cl : List (Str × Addr)) (fp : List Addr), QB (X.blk s H scope (compEnvC scope cl C X.env) fp) tg T) (ht : ∀ (s : Shared) (H : Hp) (C : Addr) (cl : List (Str × Addr)) (fp : List Addr), QTs (X.blk s H scope (compEnvC scope cl C X.env) fp) ifs tt)
    (he : ∀ (s : Shared) (H : Hp) (C : Addr) (cl : List (Str × Addr)) (fp : List Addr), QE (X.blk s H scope (compEnvC scope cl C X.env) fp) elt te) (hv : ∀ i ∈ T.slots, i ∈ own.map (·.2) := by decide) (hs : ∀ x, foldedSetIterable iter X.env x = pure x := by intro _; rfl) :
    QS X (.Assign [.Name y py] (.ListComp elt [⟨tg, iter, ifs, 0⟩] scope pos) spos) (tSet3 i (tOwn (tLc3 ti T tt te (own.map (·.2))))) := (ps_setLc hc hN hy hyl hsw hi ok hg ht he hs).imp fun D σ H ⟨w, env, S, D3, r0, en, t, q⟩ => by
  refine lc_low (R := fun x H1 => gName i x σ H1 D.nx) hv ⟨w, env, S, _, r0, en, t, fun w1 p xs ds H1 S1 e1 r1 hn ha hz t1 => ?_⟩
  obtain ⟨r2, e2⟩ := r1.push (u := .lst xs) (o := .lst ds) hn ⟨xs, rfl, ha, hz⟩
  refine q.nx _ _ _ _ _ (e1.trans e2) r2 (((en.mono e1).mono e2).set (d := .loc S1.length) i ⟨p, ?_, rfl⟩) t1
  show (w1.al ++ [p])[S1.length]? = some p
  rw [← r1.len, List.getElem?_append_right (Nat.le_refl _)]
  simp
end
end L3

namespace L3
open PySem PySem.Spec PyProof.Rows L2
/-! ### defs -/
abbrev Sp3 := List D → S3 → K3 → Prop
/-- a def that keeps a promise over trees -/
structure Ok3 (P : Program) (w : World) (K : PySem.W.Frag) (mg : Str → Option Value) (base : Heap) (k : Nat) (x : Str) (sp : Sp3) : Prop where
  ex : ∃ f fd ps, mg x = some (.ref f) ∧ PySem.W.keepIn K (.ref f) = true ∧ Binds K fd ps [] ∧ FnOk P w K mg base CX0 k f fd ps (fun vs H Q _ => lowC K sp vs H Q)
section
variable {X : Cx} {e : Expr} {es : List Expr} {tr : TA3} {p pos : Pos} {x : Str} {k : Nat} {sp : Sp3}
theorem qe_call (F : Ok3 X.prog X.w X.K X.mg X.base k x sp) (hr : Room k X.A) (hg : Gl X x) (ha : QA X (e :: es) tr) (hdb : (x == ("__debug__" : Str)) = false := by decide) (he : starEach (e :: es) X.env = (false, eval e X.env) :: starEach es X.env := by rfl) (hpl : (backTo pos (starEach es X.env)).any (·.1) = false := by rfl) :
    QE X (.Call (.Name x p) (e :: es) [] pos) (tCB3 sp tr) := by
  obtain ⟨f, fd, ps, hm, kp, b, ok⟩ := F.ex
  refine (pe_call ok hr hg hm kp b .nil pass0 ha hdb he hpl).imp fun σ H R h => ?_
  show lowA X.K tr σ H fun vs H1 => lowC X.K sp (vs ++ []) H1 R
  have := lowCB h
  obtain ⟨w, env, S, Q, r0, en, t, q⟩ := this
  refine ⟨w, env, S, Q, r0, en, t, fun w1 vs ds H1 S1 e1 r1 p1 t1 => ?_⟩
  show lowC X.K sp (vs ++ []) H1 R
  rw [List.append_nil]
  exact q w1 vs ds H1 S1 e1 r1 p1 t1
end
/-- a def's answer: the store's last objects (those made within) are forgotten, but for what is handed back -/
def Fin3 (S : S3) (Q : K3) : K3 := fun d S' => ∃ L, S.length ≤ L ∧ below L d ∧ Q d (S'.take L)
theorem fin_p {S : S3} {Q : K3} {d : PyData} (h : Q (.p d) S) : Fin3 S Q (.p d) S := ⟨S.length, Nat.le_refl _, trivial, by rw [List.take_length]; exact h⟩
theorem fin_app {S T : S3} {Q : K3} {d : PyData} (h : Q (.p d) S) : Fin3 S Q (.p d) (S ++ T) := ⟨S.length, Nat.le_refl _, trivial, by rw [List.take_left]; exact h⟩
theorem fin_of {S S' : S3} {Q : K3} {d : PyData} (e : S'.take S.length = S) (h : Q (.p d) S) : Fin3 S Q (.p d) S' := ⟨S.length, Nat.le_refl _, trivial, by rw [e]; exact h⟩
theorem fin_all {S S' : S3} {Q : K3} {d : D} (hl : S.length ≤ S'.length) (hb : below S'.length d) (h : Q d S') : Fin3 S Q d S' := ⟨S'.length, hl, hb, by rw [List.take_length]; exact h⟩
theorem fin_new {S : S3} {o : Option O3} {Q : K3} (h : Q (.loc S.length) (S ++ [o])) : Fin3 S Q (.loc S.length) (S ++ [o]) := fin_all (by simp) (by show _ < _; simp) h
def env0 (n : Nat) (ds : List D) : E3 := ds.map some ++ List.replicate (n - ds.length) none
theorem at3_app : ∀ (ds : List D) (r : E3) (i : Nat), at3 (ds.map some ++ r) i = if i < ds.length then ds[i]? else at3 r (i - ds.length)
  | [], r, i => by simp [at3]
  | d :: ds, r, 0 => by simp [at3]
  | d :: ds, r, i + 1 => by
    show at3 (ds.map some ++ r) i = _
    rw [at3_app ds r i]
    simp
theorem at3_none : ∀ (n i : Nat), at3 (List.replicate n none) i = none
  | 0, _ => rfl
  | n + 1, 0 => rfl
  | n + 1, i + 1 => at3_none n i
theorem repDs_get {K : PySem.W.Frag} {w : W3} : ∀ {vs : List V} {ds : List D} {i : Nat} {d : D}, RepDs K w vs ds → ds[i]? = some d → ∃ v, vs[i]? = some v ∧ RepD K w v d
  | v :: vs, d :: ds, 0, e, h, q => by simp at q; subst q; exact ⟨v, rfl, h.1⟩
  | v :: vs, d :: ds, i + 1, e, h, q => by
    obtain ⟨u, h1, h2⟩ := repDs_get (i := i) h.2 (by simpa using q)
    exact ⟨u, by simpa using h1, h2⟩
  | [], [], i, e, h, q => by simp at q
  | [], _ :: _, _, _, h, _ => h.elim
  | _ :: _, [], _, _, h, _ => h.elim
theorem env_start {K : PySem.W.Frag} {w : W3} {vs : List V} {ds : List D} {N : List Str} (h : RepDs K w vs ds) : EnvR K w (L2.start N vs) (env0 N.length ds) := by
  have hl := RepDs.length h
  unfold L2.start env0
  refine ⟨by simp [hl], fun i d q => ?_⟩
  rw [at3_app] at q
  by_cases hi : i < ds.length
  · rw [if_pos hi] at q
    obtain ⟨v, h1, h2⟩ := repDs_get h q
    refine ⟨v, ?_, h2⟩
    rw [List.getElem?_append_left (by simp; omega), List.getElem?_map, h1]
    rfl
  · rw [if_neg hi, at3_none] at q
    cases q
section
variable {P : Program} {w : World} {K : PySem.W.Frag} {mg : Str → Option Value} {base : Heap}
/-- THE RULE for a def -/
theorem Ok3.fnOk {x : Str} {st : Stmt} {f : Addr} {fd : FuncData} {N ps : List Str} {k : Nat} {sp : Sp3} {t3 : TS3} (F : Fun K x x st f fd) (b : Binds K fd ps []) (sc : FnScope N ps (defScope st))
    (hlen : ∀ ds S Q, sp ds S Q → ds.length = ps.length)
    (body : ∀ (cdv : Value) (A : Around) (outer : List Env) (s : Shared) (H : Hp) (E : XK), Room k (A.deeper (envOfC x (defScope st) s.heap.objs.size f cdv)) → QSs (cxOf CX0 P w K mg base N x (defScope st) f cdv A outer s H E).nox (defBody st) t3)
    (read : ∀ ds S Q, sp ds S Q → t3 { nx := fun _ S' => Fin3 S Q (.p .none) S', rt := Fin3 S Q } (env0 N.length ds) S) : FnOk P w K mg base CX0 (k + 1) f fd ps (fun vs H Q _ => lowC K sp vs H Q) := by
  refine F.ok sc (fun vs H Q E h => ?_) (fun cdv A outer s H vs Q E hr h => ?_)
  · obtain ⟨w3, S, ds, Q3, r, rd, hs, q⟩ := h
    rw [RepDs.length rd]
    exact hlen ds S Q3 hs
  · obtain ⟨w3, S, ds, Q3, r, rd, hs, q⟩ := h
    refine ⟨_, body cdv A outer s H E hr, ?_⟩
    have fin : ∀ (w4 : W3) (v : V) (d : D) (H' : Hp) (S' : S3), Ex3 w3 w4 → Rel3 K w4 H' S' → RepD K w4 v d → Fin3 S Q3 d S' → Q v H' := fun w4 v d H' S' e4 r4 p4 ⟨L, hL, hb, h4⟩ => by
      refine q ⟨w4.al.take L, w4.h, w4.pn⟩ v d H' (S'.take L) ⟨⟨?_, e4.h⟩, e4.pn⟩ (r4.shrink L) ?_ h4
      · obtain ⟨t, ht⟩ := e4.al
        refine ⟨t.take (L - w3.al.length), ?_⟩
        show w4.al.take L = _
        rw [ht, List.take_append, List.take_of_length_le (by rw [r.len]; exact hL)]
      · cases d with
        | p d => exact p4
        | exc c => exact p4
        | loc m =>
          obtain ⟨a, h5, h6⟩ := p4
          exact ⟨a, by show (w4.al.take L)[m]? = _; rw [List.getElem?_take_of_lt hb]; exact h5, h6⟩
    exact ⟨w3, _, S, _, r, env_start rd, read ds S Q3 hs, ⟨fun w4 σ' H' env' S' e4 r4 _ h4 => fin w4 .non (.p .none) H' S' e4 r4 rep_non h4, fun w4 v d H' S' e4 r4 p4 h4 => fin w4 v d H' S' e4 r4 p4 h4,
      fun _ _ _ _ _ _ _ _ h => h.elim, fun _ _ _ _ _ _ _ _ h => h.elim⟩⟩
theorem Ok3.mk' {x : Str} {st : Stmt} {f : Addr} {fd : FuncData} {N ps : List Str} {k : Nat} {sp : Sp3} {t3 : TS3} (F : Fun K x x st f fd) (hm : mg x = some (.ref f)) (b : Binds K fd ps []) (sc : FnScope N ps (defScope st))
    (hlen : ∀ ds S Q, sp ds S Q → ds.length = ps.length)
    (body : ∀ (cdv : Value) (A : Around) (outer : List Env) (s : Shared) (H : Hp) (E : XK), Room k (A.deeper (envOfC x (defScope st) s.heap.objs.size f cdv)) → QSs (cxOf CX0 P w K mg base N x (defScope st) f cdv A outer s H E).nox (defBody st) t3)
    (read : ∀ ds S Q, sp ds S Q → t3 { nx := fun _ S' => Fin3 S Q (.p .none) S', rt := Fin3 S Q } (env0 N.length ds) S) : Ok3 P w K mg base (k + 1) x sp :=
  ⟨f, fd, ps, hm, F.kp, b, Ok3.fnOk F b sc hlen body read⟩
end

/-! ### operators -/
theorem opq {X : Cx} {f : Value → Value → Sem Value} {r2 : R2} {r : R3} (h : OpR X f r2) (i : ∀ w S d e (x y : V) (H : Hp) (Q : K3) (R : VK), Rel3 X.K w H S → RepD X.K w x d → RepD X.K w y e → r d e S Q → EndE X.K w Q R → r2 x y H R) : OQ X f r :=
  OpR.imp h fun x y H R ⟨w, S, d, e, Q, r0, p1, p2, t, q⟩ => i w S d e x y H Q R r0 p1 p2 t q
theorem callq {X : Cx} {f : Value} {r2 : List V → Hp → VK → Prop} {r : C3} (h : CallR X f r2) (i : ∀ w S ds (xs : List V) (H : Hp) (Q : K3) (R : VK), Rel3 X.K w H S → RepDs X.K w xs ds → r ds S Q → EndE X.K w Q R → r2 xs H R) : CQ X f r :=
  CallR.imp h fun xs H R ⟨w, S, ds, Q, r0, p1, t, q⟩ => i w S ds xs H Q R r0 p1 t q
section
variable {X : Cx} {K : PySem.W.Frag} {w : W3} {H : Hp} {S : S3} {Q : K3} {R : VK}
theorem EndE.int (q : EndE K w Q R) (r : Rel3 K w H S) {i : Int} (h : Q (.p (.int i)) S) : R (.int i) H := q w _ _ H S (Ex3.refl w) r rep_int h
theorem EndE.bl (q : EndE K w Q R) (r : Rel3 K w H S) {i : Bool} (h : Q (.p (.bool i)) S) : R (.bl i) H := q w _ _ H S (Ex3.refl w) r rep_bl h
theorem EndE.str (q : EndE K w Q R) (r : Rel3 K w H S) {i : Str} (h : Q (.p (.str i)) S) : R (.str i) H := q w _ _ H S (Ex3.refl w) r rep_str h
theorem EndE.old (q : EndE K w Q R) (r : Rel3 K w H S) {v : V} {d : D} (hd : RepD K w v d) (h : Q d S) : R v H := q w _ _ H S (Ex3.refl w) r hd h
theorem EndE.tup (q : EndE K w Q R) (r : Rel3 K w H S) {vs : List V} {ds : List PyData} (ha : DpAll K w.h vs ds) (hz : ds.length ≤ sizeLine) (h : Q (.p (.tuple ds)) S) : ∀ p, H p = none → R (.ref p) (upd H p (.tup vs)) := fun p hn => by
  obtain ⟨r2, e2⟩ := r.frz (u := .tup vs) hn (by show vs.length ≤ _; rw [DpAll.length ha]; exact hz)
  exact q _ (.ref p) (.p (.tuple ds)) _ S e2 r2 (Dp.tup (.inl (.inl upd_same)) (dpAll_mono e2.h ds vs ha)) h
theorem EndE.lst (q : EndE K w Q R) (r : Rel3 K w H S) {vs : List V} {ds : List PyData} (ha : DpAll K w.h vs ds) (hz : ds.length ≤ sizeLine) (h : Q (.p (.list ds)) S) : ∀ p, H p = none → R (.ref p) (upd H p (.lst vs)) := fun p hn => by
  obtain ⟨r2, e2⟩ := r.frz (u := .lst vs) hn (by show vs.length ≤ _; rw [DpAll.length ha]; exact hz)
  exact q _ (.ref p) (.p (.list ds)) _ S e2 r2 (Dp.lst (.inl (.inl upd_same)) (dpAll_mono e2.h ds vs ha)) h
end
/-- ints in, an int out -/
def rInt (C : Int → Int → Prop) (g : Int → Int → PyData) : R3 := fun x y S Q => match x, y with
  | .p (.int i), .p (.int j) => C i j ∧ Q (.p (g i j)) S
  | _, _ => False
def rInt0 (g : Int → Int → PyData) : R3 := fun x y S Q => match x, y with
  | .p (.int i), .p (.int j) => Q (.p (g i j)) S
  | _, _ => False
theorem rint_inv {C : Int → Int → Prop} {g : Int → Int → PyData} {x y : D} {S : S3} {Q : K3} (h : rInt C g x y S Q) : ∃ i j, x = .p (.int i) ∧ y = .p (.int j) ∧ C i j ∧ Q (.p (g i j)) S := by
  unfold rInt at h
  split at h
  · exact ⟨_, _, rfl, rfl, h⟩
  · exact h.elim
theorem rint0_inv {g : Int → Int → PyData} {x y : D} {S : S3} {Q : K3} (h : rInt0 g x y S Q) : ∃ i j, x = .p (.int i) ∧ y = .p (.int j) ∧ Q (.p (g i j)) S := by
  unfold rInt0 at h
  split at h
  · exact ⟨_, _, rfl, rfl, h⟩
  · exact h.elim
section
variable {X : Cx}
theorem oq_int {f : Value → Value → Sem Value} {C : Int → Int → Prop} {g : Int → Int → Int} (h : OpR X f (rI C fun i j => .int (g i j))) : OQ X f (rInt C fun i j => .int (g i j)) := opq h fun w S d e x y H Q R r0 p1 p2 t q => by
  obtain ⟨i, j, rfl, rfl, hc, t⟩ := rint_inv t
  exact ⟨i, j, dp_int p1, dp_int p2, hc, q.int r0 t⟩
theorem oq_int0 {f : Value → Value → Sem Value} {g : Int → Int → Int} (h : OpR X f (rI0 fun i j => .int (g i j))) : OQ X f (rInt0 fun i j => .int (g i j)) := opq h fun w S d e x y H Q R r0 p1 p2 t q => by
  obtain ⟨i, j, rfl, rfl, t⟩ := rint0_inv t
  exact ⟨i, j, dp_int p1, dp_int p2, q.int r0 t⟩
theorem oq_bool0 {f : Value → Value → Sem Value} {g : Int → Int → Bool} (h : OpR X f (rI0 fun i j => .bl (g i j))) : OQ X f (rInt0 fun i j => .bool (g i j)) := opq h fun w S d e x y H Q R r0 p1 p2 t q => by
  obtain ⟨i, j, rfl, rfl, t⟩ := rint0_inv t
  exact ⟨i, j, dp_int p1, dp_int p2, q.bl r0 t⟩
/-! #### sums -/
theorem op_catL : OpR X (binaryOp .Add) (fun x y H Q => ∃ a b xs ys, x = .ref a ∧ y = .ref b ∧ SqL X.K H a xs ∧ SqL X.K H b ys ∧ xs.length + ys.length ≤ sizeLine ∧ ∀ p, H p = none → Q (.ref p) (upd H p (.lst (xs ++ ys)))) := by
  intro pins s σ H x y v u Q I rx ry h
  obtain ⟨l, b, xs, zs, rfl, rfl, hH, hB, hz, q⟩ := h
  cases rx
  cases ry
  obtain ⟨its, r, p1, z1⟩ := I.list hH
  obtain ⟨its2, r2, p2, z2⟩ := I.list hB
  have hl := r.length
  have hl2 := r2.length
  obtain ⟨⟨cls, dd, data, sl⟩, ho, hc, n, hd⟩ := id p1.isList
  obtain ⟨⟨cls2, dd2, data2, sl2⟩, ho2, hc2, n2, hd2⟩ := id p2.isList
  simp only at hc hd hc2 hd2
  subst hc hd hc2 hd2
  refine PySem.concat_meets ⟨_, ho, rfl⟩ ⟨_, ho2, rfl⟩ noFill_list_add seq_list_add PySem.F.slot_list_add PySem.F.entry_list_add (PySem.F.args_list_add_2 _ _) (list_addW l b its.toArray its2.toArray n n2 dd dd2 sl sl2 (by simp; omega)) ⟨ho, ho2, ?_⟩
  have ea : its.toArray ++ its2.toArray = (its ++ its2).toArray := by simp
  rw [ea]
  have hn : H s.heap.objs.size = none := I.hok.fresh (Nat.le_refl _)
  exact ⟨.ref s.heap.objs.size, _, I.laid (t' := s.toks) (o := .lst (xs ++ zs)) (fun b ob q => Heap.get?_push_of_some _ q) (Nat.le_refl _) ⟨by rw [List.length_append]; exact hz, _, _, r.append r2, Heap.get?_push_size _ rfl⟩, rfl, q _ hn⟩
end
/-- the items of a list: as it stands for ever, or of the store -/
def lst3 (S : S3) : D → Option (List PyData)
  | .p (.list ds) => some ds
  | .loc n => match S[n]? with
    | some (some (.lst ds)) => some ds
    | _ => none
  | _ => none
theorem lst3_low {K : PySem.W.Frag} {w : W3} {H : Hp} {S : S3} {v : V} {d : D} {ds : List PyData} (r : Rel3 K w H S) (p : RepD K w v d) (h : lst3 S d = some ds) : ∃ a xs, v = .ref a ∧ SqL K H a xs ∧ DpAll K w.h xs ds ∧ ds.length ≤ sizeLine := by
  unfold lst3 at h
  split at h
  · cases h
    obtain ⟨a, xs, rfl, hq, ha⟩ := dp_list_ref p
    exact ⟨a, xs, rfl, L2.Same.seq r.sub hq, ha, len_list r p⟩
  · rename_i n
    split at h
    · rename_i es hs
      cases h
      obtain ⟨a, ha, rfl⟩ := p
      obtain ⟨_, u, hu, xs, rfl, hd, hz⟩ := r.live n a _ ha hs
      exact ⟨a, xs, rfl, .inl (.inl hu), hd, hz⟩
    · cases h
  · cases h
/-- the items of a list or a tuple -/
def seq3 (S : S3) : D → Option (List PyData)
  | .p (.tuple ds) => some ds
  | d => lst3 S d
theorem seq3_low {K : PySem.W.Frag} {w : W3} {H : Hp} {S : S3} {v : V} {d : D} {ds : List PyData} (r : Rel3 K w H S) (p : RepD K w v d) (h : seq3 S d = some ds) : ∃ a xs, v = .ref a ∧ (SqL K H a xs ∨ SqT K H a xs) ∧ DpAll K w.h xs ds ∧ ds.length ≤ sizeLine := by
  unfold seq3 at h
  split at h
  · cases h
    obtain ⟨a, xs, rfl, hq, ha⟩ := dp_tup_ref p
    exact ⟨a, xs, rfl, .inr (Same.sqT r.sub hq), ha, len_tup r p⟩
  · obtain ⟨a, xs, h1, h2, h3⟩ := lst3_low r p h
    exact ⟨a, xs, h1, .inl h2, h3⟩
def rAdd3 : R3 := fun x y S Q => match x, y with
  | .p (.int i), .p (.int j) => Q (.p (.int (i + j))) S
  | .p (.tuple a), .p (.tuple b) => a.length + b.length ≤ 16777216 ∧ Q (.p (.tuple (a ++ b))) S
  | .p (.str a), .p (.str b) => a.length + b.length ≤ 16777216 ∧ Q (.p (.str (a ++ b))) S
  | a, b => match lst3 S a, lst3 S b with
    | some ds, some es => ds.length + es.length ≤ 16777216 ∧ Q (.p (.list (ds ++ es))) S
    | _, _ => False
section
variable {X : Cx}
theorem oq_add : OQ X (binaryOp .Add) rAdd3 := opq (op_add.or (op_catA.or (op_add_str.or op_catL))) fun w S d e x y H Q R r0 p1 p2 t q => by
  have hz : sizeLine = 16777216 := sizeLine_eq
  unfold rAdd3 at t
  split at t
  · exact .inl ⟨_, _, dp_int p1, dp_int p2, q.int r0 t⟩
  · rename_i a b
    refine .inr (.inl ?_)
    obtain ⟨l, xs, rfl, hq, ha⟩ := dp_tup_ref p1
    obtain ⟨m, ys, rfl, hq2, ha2⟩ := dp_tup_ref p2
    have hl := DpAll.length ha
    have hl2 := DpAll.length ha2
    refine ⟨l, m, xs, ys, rfl, rfl, Same.sqT r0.sub hq, Same.sqT r0.sub hq2, by omega, fun z => ?_, fun _ z => ?_, fun _ _ => q.tup r0 (DpAll.append ha ha2) (by rw [List.length_append]; omega) t.2⟩
    · subst z
      cases ha
      exact q.old r0 p2 t.2
    · subst z
      cases ha2
      have t2 := t.2
      rw [List.append_nil] at t2
      exact q.old r0 p1 t2
  · exact .inr (.inr (.inl ⟨_, _, dp_str p1, dp_str p2, by omega, q.str r0 t.2⟩))
  · split at t
    · rename_i ds es h1 h2
      obtain ⟨l, xs, rfl, hq, ha, _⟩ := lst3_low r0 p1 h1
      obtain ⟨m, ys, rfl, hq2, ha2, _⟩ := lst3_low r0 p2 h2
      have hl := DpAll.length ha
      have hl2 := DpAll.length ha2
      exact .inr (.inr (.inr ⟨l, m, xs, ys, rfl, rfl, hq, hq2, by omega, q.lst r0 (DpAll.append ha ha2) (by rw [List.length_append]; omega) t.2⟩))
    · exact t.elim
/-- a product of ints: one of them below 2 ^ 64, or both together below a million bits -/
def MulOk (i j : Int) : Prop := (-18446744073709551616 < i ∧ i < 18446744073709551616) ∨ (-18446744073709551616 < j ∧ j < 18446744073709551616) ∨ CMulW i j
def DivOk (_ j : Int) : Prop := 0 < j ∧ (j < 18446744073709551616 ∨ j.natAbs.log2 < 9000)
def PowOk (i j : Int) : Prop := 0 ≤ j ∧ j ≤ 1000000 ∧ -18446744073709551616 < i ∧ i < 18446744073709551616
def rSub3 : R3 := rInt0 fun i j => .int (i - j)
def rMul3 : R3 := rInt MulOk fun i j => .int (i * j)
def rMod3 : R3 := rInt (fun _ j => 0 < j) fun i j => .int (i % j)
def rDiv3 : R3 := rInt DivOk fun i j => .int (i / j)
def rPow3 : R3 := rInt PowOk fun i j => .int (i ^ j.toNat)
theorem oq_sub : OQ X (binaryOp .Sub) rSub3 := oq_int0 op_sub
theorem oq_mul : OQ X (binaryOp .Mult) rMul3 := opq (op_mul.or op_mulW) fun w S d e x y H Q R r0 p1 p2 t q => by
  obtain ⟨i, j, rfl, rfl, hc, t⟩ := rint_inv t
  rcases hc with hc | hc | hc
  · exact .inl ⟨i, j, dp_int p1, dp_int p2, .inl (by omega), q.int r0 t⟩
  · exact .inl ⟨i, j, dp_int p1, dp_int p2, .inr (by omega), q.int r0 t⟩
  · exact .inr ⟨i, j, dp_int p1, dp_int p2, hc, q.int r0 t⟩
theorem oq_mod : OQ X (binaryOp .Mod) rMod3 := oq_int op_mod
theorem DivOk.log {i j : Int} (h : DivOk i j) : CDivW i j := by
  rcases h with ⟨h0, hc | hc⟩
  · refine wide_div (b := 64) h0 ?_ (by decide) (by decide)
    omega
  · exact ⟨h0, hc⟩
theorem oq_div : OQ X (binaryOp .FloorDiv) rDiv3 := opq op_fdivW fun w S d e x y H Q R r0 p1 p2 t q => by
  obtain ⟨i, j, rfl, rfl, hc, t⟩ := rint_inv t
  exact ⟨i, j, dp_int p1, dp_int p2, hc.log, q.int r0 t⟩
theorem oq_pow : OQ X (binaryOp .Pow) rPow3 := opq op_pow fun w S d e x y H Q R r0 p1 p2 t q => by
  obtain ⟨i, j, rfl, rfl, ⟨h0, h1, h2, h3⟩, t⟩ := rint_inv t
  exact ⟨i, j, dp_int p1, dp_int p2, ⟨h0, h1, by omega⟩, q.int r0 t⟩
def rLt3 : R3 := rInt0 fun i j => .bool (decide (i < j))
def rLe3 : R3 := rInt0 fun i j => .bool (decide (i ≤ j))
def rGt3 : R3 := rInt0 fun i j => .bool (decide (j < i))
def rGe3 : R3 := rInt0 fun i j => .bool (decide (j ≤ i))
theorem oq_lt : OQ X (compareOp .Lt) rLt3 := oq_bool0 op_lt
theorem oq_le : OQ X (compareOp .LtE) rLe3 := oq_bool0 op_le
theorem oq_gt : OQ X (compareOp .Gt) rGt3 := oq_bool0 op_gt
theorem oq_ge : OQ X (compareOp .GtE) rGe3 := oq_bool0 op_ge
/-- == of data -/
def rEq3 : R3 := fun x y S Q => match x, y with
  | .p d, .p e => (SeqAt.shaped d = true ∧ SeqAt.shaped e = true) ∧ Q (.p (.bool (PyData.eqv d e))) S
  | _, _ => False
def rNe3 : R3 := fun x y S Q => match x, y with
  | .p d, .p e => (SeqAt.shaped d = true ∧ SeqAt.shaped e = true) ∧ Q (.p (.bool (!PyData.eqv d e))) S
  | _, _ => False
theorem oq_eq (hu : X.A.units + 64 < cLine) : OQ X (compareOp .Eq) rEq3 := opq (op_eqD hu) fun w S d e x y H Q R r0 p1 p2 t q => by
  unfold rEq3 at t
  split at t
  · exact ⟨_, _, (dp_mono r0.sub _ _ p1).sh t.1.1, (dp_mono r0.sub _ _ p2).sh t.1.2, t.1.1, t.1.2, q.bl r0 t.2⟩
  · exact t.elim
theorem oq_ne (hu : X.A.units + 64 < cLine) : OQ X (compareOp .NotEq) rNe3 := opq (op_neD hu) fun w S d e x y H Q R r0 p1 p2 t q => by
  unfold rNe3 at t
  split at t
  · exact ⟨_, _, (dp_mono r0.sub _ _ p1).sh t.1.1, (dp_mono r0.sub _ _ p2).sh t.1.2, t.1.1, t.1.2, q.bl r0 t.2⟩
  · exact t.elim
def isNon : D → Bool
  | .p .none => true
  | _ => false
theorem isNon_low {K : PySem.W.Frag} {w : W3} {v : V} {d : D} (p : RepD K w v d) : decide (v = .non) = isNon d := by
  cases d with
  | loc n =>
    obtain ⟨a, _, rfl⟩ := p
    rfl
  | exc c =>
    obtain ⟨a, _, _, rfl, _⟩ := p
    rfl
  | p d =>
    have p' : Dp K w.h v d := p
    cases p' <;> rfl
def rIs3 : R3 := fun x y S Q => match y with
  | .p .none => Q (.p (.bool (isNon x))) S
  | .p (.bool b) => match x with
    | .p (.bool a) => Q (.p (.bool (a == b))) S
    | _ => False
  | _ => False
def rIsNot3 : R3 := fun x y S Q => match y with
  | .p .none => Q (.p (.bool (!isNon x))) S
  | .p (.bool b) => match x with
    | .p (.bool a) => Q (.p (.bool (a != b))) S
    | _ => False
  | _ => False
theorem oq_is : OQ X (compareOp .Is) rIs3 := opq (op_isN.or op_isBl) fun w S d e x y H Q R r0 p1 p2 t q => by
  unfold rIs3 at t
  split at t
  · refine .inl ⟨dp_non p2, ?_⟩
    rw [isNon_low p1]
    exact q.bl r0 t
  · split at t
    · refine .inr ⟨_, _, dp_bl p1, dp_bl p2, ?_⟩
      rename_i a
      rename_i b _
      refine q.bl r0 ?_
      rw [← Bool.beq_eq_decide_eq]
      exact t
    · exact t.elim
  · exact t.elim
theorem oq_isnot : OQ X (compareOp .IsNot) rIsNot3 := opq (op_notN.or op_notBl) fun w S d e x y H Q R r0 p1 p2 t q => by
  unfold rIsNot3 at t
  split at t
  · refine .inl ⟨dp_non p2, ?_⟩
    rw [isNon_low p1]
    exact q.bl r0 t
  · split at t
    · refine .inr ⟨_, _, dp_bl p1, dp_bl p2, ?_⟩
      rename_i a
      rename_i b _
      refine q.bl r0 ?_
      rw [← Bool.beq_eq_decide_eq]
      exact t
    · exact t.elim
  · exact t.elim
/-- xs[i] -/
theorem atI_dp {K : PySem.W.Frag} {h : Hp} {xs : List V} {ds : List PyData} {i : Int} {d : PyData} (ha : DpAll K h xs ds) (e : atI ds i = some d) : ∃ v, atI xs i = some v ∧ Dp K h v d := by
  unfold atI at e ⊢
  rw [DpAll.length ha]
  cases hj : ixN ds.length i with
  | none => rw [hj] at e; cases e
  | some j =>
    rw [hj] at e
    obtain ⟨v, h1, h2⟩ := DpAll.get ha (show ds[j]? = some d from e)
    exact ⟨v, h1, h2⟩
def rIx3 : R3 := fun x y S Q => match y with
  | .p (.int i) => (match x with
    | .p (.str z) => z.length ≤ 16777216 ∧ (match atI z.cps.toList i with
      | some c => Q (.p (.str ⟨#[c]⟩)) S
      | none => False)
    | _ => match seq3 S x with
      | some ds => (match atI ds i with
        | some d => Q (.p d) S
        | none => False)
      | none => False)
  | _ => False
theorem iq_seq : IQ X rIx3 := IxR.imp ix_seq fun x y H R ⟨w, S, d, e, Q, r0, p1, p2, t, q⟩ => by
  have hz : sizeLine = 16777216 := sizeLine_eq
  unfold rIx3 at t
  split at t
  · have hy := dp_int p2
    subst hy
    split at t
    · obtain ⟨hl, t⟩ := t
      split at t
      · rename_i c hc
        exact .inr (.inr ⟨_, _, c, dp_str p1, rfl, by omega, hc, q.str r0 t⟩)
      · exact t.elim
    · split at t
      · rename_i ds h1
        split at t
        rotate_left
        · exact t.elim
        rename_i d' hd
        obtain ⟨a, xs, rfl, hq, ha, _⟩ := seq3_low r0 p1 h1
        obtain ⟨v, h2, h3⟩ := atI_dp ha hd
        rcases hq with hq | hq
        · exact .inl ⟨a, xs, _, v, rfl, rfl, hq, h2, q.old (d := .p d') r0 h3 t⟩
        · exact .inr (.inl ⟨a, xs, _, v, rfl, rfl, hq, h2, q.old (d := .p d') r0 h3 t⟩)
      · exact t.elim
  · exact t.elim
/-! #### built-ins -/
def rLen3 : C3 := fun ds S Q => match ds with
  | [.p (.str z)] => z.length ≤ 16777216 ∧ Q (.p (.int z.length)) S
  | [d] => match seq3 S d with
    | some es => Q (.p (.int es.length)) S
    | none => False
  | _ => False
theorem rds1 {K : PySem.W.Frag} {w : W3} {vs : List V} {d : D} (h : RepDs K w vs [d]) : ∃ v, vs = [v] ∧ RepD K w v d := by
  match vs, h with
  | [v], h => exact ⟨v, rfl, h.1⟩
  | [], h => exact h.elim
  | _ :: _ :: _, h => exact h.2.elim
theorem rds2 {K : PySem.W.Frag} {w : W3} {vs : List V} {d e : D} (h : RepDs K w vs [d, e]) : ∃ v u, vs = [v, u] ∧ RepD K w v d ∧ RepD K w u e := by
  match vs, h with
  | [v, u], h => exact ⟨v, u, rfl, h.1, h.2.1⟩
  | [], h => exact h.elim
  | [_], h => exact h.2.elim
  | _ :: _ :: _ :: _, h => exact h.2.2.elim
theorem cq_len : CQ X (.builtin "len") rLen3 := callq call_len fun w S ds xs H Q R r0 p1 t q => by
  have hz : sizeLine = 16777216 := sizeLine_eq
  unfold rLen3 at t
  split at t
  · obtain ⟨v, rfl, p⟩ := rds1 p1
    have := dp_str p
    subst this
    exact ⟨_, _, rfl, ⟨by omega, rfl⟩, q.int r0 t.2⟩
  · obtain ⟨v, rfl, p⟩ := rds1 p1
    split at t
    · rename_i es h1
      obtain ⟨a, ys, rfl, hq, ha, _⟩ := seq3_low r0 p h1
      have hl := DpAll.length ha
      refine ⟨_, es.length, rfl, ?_, q.int r0 t⟩
      rcases hq with hq | hq
      · exact .inl ⟨ys, hq, hl.symm⟩
      · exact .inr ⟨ys, hq, hl.symm⟩
    · exact t.elim
  · exact t.elim
def rIntOf3 : C3 := fun ds S Q => match ds with
  | [.p (.int i)] => Q (.p (.int i)) S
  | [.p (.bool b)] => Q (.p (.int (if b then 1 else 0))) S
  | _ => False
theorem cq_int : CQ X (.type "int") rIntOf3 := callq call_int1 fun w S ds xs H Q R r0 p1 t q => by
  unfold rIntOf3 at t
  split at t
  · obtain ⟨v, rfl, p⟩ := rds1 p1
    have := dp_int p
    subst this
    exact .inl ⟨_, rfl, q.int r0 t⟩
  · obtain ⟨v, rfl, p⟩ := rds1 p1
    have := dp_bl p
    subst this
    exact .inr ⟨_, rfl, q.int r0 t⟩
  · exact t.elim
def rInt2 (g : Int → Int → Int) : C3 := fun ds S Q => match ds with
  | [.p (.int i), .p (.int j)] => Q (.p (.int (g i j))) S
  | _ => False
theorem cq_max2 (hc : X.calm = true) : CQ X (.builtin "max") (rInt2 fun i j => if j > i then j else i) := callq (call_max2 hc) fun w S ds xs H Q R r0 p1 t q => by
  unfold rInt2 at t
  split at t
  · obtain ⟨v, u, rfl, p, p'⟩ := rds2 p1
    have := dp_int p
    subst this
    have := dp_int p'
    subst this
    exact ⟨_, _, rfl, q.int r0 t⟩
  · exact t.elim
theorem cq_min2 (hc : X.calm = true) : CQ X (.builtin "min") (rInt2 fun i j => if j < i then j else i) := callq (call_min2 hc) fun w S ds xs H Q R r0 p1 t q => by
  unfold rInt2 at t
  split at t
  · obtain ⟨v, u, rfl, p, p'⟩ := rds2 p1
    have := dp_int p
    subst this
    have := dp_int p'
    subst this
    exact ⟨_, _, rfl, q.int r0 t⟩
  · exact t.elim
def rTupOf3 : C3 := fun ds S Q => match ds with
  | [d] => match seq3 S d with
    | some es => Q (.p (.tuple es)) S
    | none => False
  | _ => False
theorem cq_tuple : CQ X (.type "tuple") rTupOf3 := callq call_tuple_of fun w S ds xs H Q R r0 p1 t q => by
  unfold rTupOf3 at t
  split at t
  · obtain ⟨v, rfl, p⟩ := rds1 p1
    split at t
    · rename_i es h1
      unfold seq3 at h1
      split at h1
      · cases h1
        obtain ⟨a, ys, rfl, hq, ha⟩ := dp_tup_ref p
        exact ⟨a, ys, rfl, .inr ⟨Same.sqT r0.sub hq, q.old r0 p t⟩⟩
      · obtain ⟨a, ys, rfl, hq, ha, hz⟩ := lst3_low r0 p h1
        exact ⟨a, ys, rfl, .inl ⟨hq, q.tup r0 ha hz t⟩⟩
    · exact t.elim
  · exact t.elim
/-- isinstance(x, T), T the name of a built-in class -/
def tyOf : PyData → String
  | .none => "NoneType"
  | .bool _ => "bool"
  | .int _ => "int"
  | .str _ => "str"
  | .list _ => "list"
  | .tuple _ => "tuple"
  | .dict _ => "dict"
end
end L3

namespace L3
open PySem PySem.Spec PyProof.Rows L2
/-! ### own lists changed -/
def own3 (S : S3) : D → Option (Nat × List PyData)
  | .loc n => match S[n]? with
    | some (some (.lst ds)) => some (n, ds)
    | _ => none
  | _ => none
theorem own3_low {K : PySem.W.Frag} {w : W3} {H : Hp} {S : S3} {v : V} {d : D} {n : Nat} {ds : List PyData} (r : Rel3 K w H S) (p : RepD K w v d) (h : own3 S d = some (n, ds)) :
    ∃ a xs, v = .ref a ∧ d = .loc n ∧ w.al[n]? = some a ∧ S[n]? = some (some (.lst ds)) ∧ H a = some (.lst xs) ∧ DpAll K w.h xs ds ∧ ds.length ≤ sizeLine := by
  unfold own3 at h
  split at h
  · split at h
    · rename_i es hs
      cases h
      obtain ⟨a, ha, rfl⟩ := p
      obtain ⟨_, u, hu, xs, rfl, hd, hz⟩ := r.live n a _ ha hs
      exact ⟨a, xs, rfl, rfl, ha, hs, hu, hd, hz⟩
    · cases h
  · cases h
/-- o[i] = e -/
def tPut3 (te to ti : TE3) : TS3 := fun D env S => te env S fun v S1 => to env S1 fun o S2 => ti env S2 fun i S3 => match own3 S3 o, i, v with
  | some (n, ds), .p (.int k), .p d => (match ixN ds.length k with
    | some j => D.nx env (S3.set n (some (.lst (ds.set j d))))
    | none => False)
  | _, _, _ => False
section
variable {X : Cx} {o i e : Expr} {to ti te : TE3} {pos pos' apos cpos : Pos}
theorem qs_put (he : QE X e te) (ho : QE X o to) (hi : QE X i ti)
    (ha : ∀ v, assign (.Subscript o i pos') X.env v = (do
      let ov ← holding [v] (eval o X.env)
      let iv ← holding [v, ov] (eval i X.env)
      standAt pos'
      holding [v, ov, iv] (setItem ov iv v)
      release [v, ov, iv] []) := by intro _; rfl) (hs : swapsWithSole [.Subscript o i pos'] e pos.line X.env = pure false := by rfl) (hw : swappedStores [.Subscript o i pos'] e X.env = pure none := by rfl)
    (h1 : (assignEach [.Subscript o i pos'] X.env).map (·.2) = [assign (.Subscript o i pos') X.env] := by rfl) : QS X (.Assign [.Subscript o i pos'] e pos) (tPut3 te to ti) :=
  (ps_asg he (pg_sub ho hi set_list ha) hs hw h1).imp fun D σ H ⟨w, env, S, D3, r0, en, t, q⟩ => by
    refine ⟨w, env, S, _, r0, en, t, fun w1 v d H1 S1 e1 r1 p1 t1 => ?_⟩
    refine ⟨w1, env, S1, _, r1, en.mono e1, t1, fun w2 u c H2 S2 e2 r2 p2 t2 => ?_⟩
    refine ⟨w2, env, S2, _, r2, (en.mono e1).mono e2, t2, fun w3 z b H3 S3 e3 r3 p3 t3 => ?_⟩
    have p2' := p2.mono e3
    have p1' := (p1.mono e2).mono e3
    split at t3
    · rename_i n ds k d' ho'
      split at t3
      rotate_left
      · exact t3.elim
      rename_i j hj
      obtain ⟨a, xs, rfl, rfl, ha, hs, hu, hd, hz⟩ := own3_low r3 p2' ho'
      refine ⟨a, xs, k, j, rfl, dp_int p3, hu, by rw [DpAll.length hd]; exact hj, ?_⟩
      exact q.nx w3 σ _ env _ ((e1.trans e2).trans e3) (r3.put (o' := .lst (ds.set j d')) ha hs ⟨_, rfl, DpAll.set p1' j hd, by rw [List.length_set]; exact hz⟩) (((en.mono e1).mono e2).mono e3) t3
    · exact t3.elim
/-- xs.append(e) -/
def tApp3 (to te : TE3) : TE3 := fun env S Q => to env S fun o S1 => match own3 S1 o with
  | some _ => te env S1 fun v S2 => match own3 S2 o, v with
    | some (n, ds), .p d => ds.length < 16777216 ∧ Q (.p .none) (S2.set n (some (.lst (ds ++ [d]))))
    | _, _ => False
  | none => False
theorem qe_append (ho : QE X o to) (he : QE X e te) (hbase : attributeBase o "append" X.env (eval o X.env) = eval o X.env := by rfl)
    (hfew : ((backTo cpos (starEach [e] X.env)).all (fun x => !x.1) && (backToKw cpos (keywordEach [] X.env)).all (fun x => x.1.isSome)
      && decide (([e] : List Expr).length + ([] : List Keyword).length + (if ([] : List Keyword).isEmpty then 0 else 1) < 30)) = true := by rfl)
    (hline : (apos.endLine == cpos.line) = true := by rfl) (hs : starEach [e] X.env = (false, eval e X.env) :: starEach [] X.env := by rfl) (hplain : (backTo cpos (starEach [] X.env)).any (·.1) = false := by rfl) :
    QE X (.Call (.Attribute o "append" apos) [e] [] cpos) (tApp3 to te) :=
  (pe_bm PySem.F.plainAttrs_list PySem.F.slot_list_append PySem.F.type_list_append mt_append ho (pa_cons he pa_nil hs) hbase hfew hline hs hplain).imp fun σ H R ⟨w, env, S, Q, r0, en, t, q⟩ => by
    have hz : sizeLine = 16777216 := sizeLine_eq
    refine ⟨w, env, S, _, r0, en, t, fun w1 v d H1 S1 e1 r1 p1 t1 => ?_⟩
    split at t1
    · rename_i nd ho1
      obtain ⟨n0, ds0⟩ := nd
      obtain ⟨a0, xs0, rfl, hd0, _, _, hu0, _, _⟩ := own3_low r1 p1 ho1
      refine ⟨.inl ⟨rfl, xs0, .inl (.inl hu0)⟩, ?_⟩
      refine ⟨w1, env, S1, _, r1, en.mono e1, t1, fun w2 u c H2 S2 e2 r2 p2 t2 => ?_⟩
      split at t2
      · rename_i n ds d' ho2
        obtain ⟨a, xs, hva, rfl, ha, hs, hu, hd, hzz⟩ := own3_low r2 (p1.mono e2) ho2
        cases hva
        have hl := DpAll.length hd
        refine ⟨_, xs, u, rfl, rfl, hu, by omega, ?_⟩
        exact q w2 .non (.p .none) _ _ (e1.trans e2) (r2.put (o' := .lst (ds ++ [d'])) ha hs ⟨_, rfl, DpAll.append hd (.cons p2 .nil), by rw [List.length_append, List.length_singleton]; omega⟩) rep_non t2.2
      · exact t2.elim
    · exact t1.elim
/-- xs.pop() -/
def tPop3 (to : TE3) : TE3 := fun env S Q => to env S fun o S1 => match own3 S1 o with
  | some (n, ds) => (match ds.getLast? with
    | some d => Q (.p d) (S1.set n (some (.lst ds.dropLast)))
    | none => False)
  | none => False
theorem DpAll.dropLast {K : PySem.W.Frag} {h : Hp} {vs : List V} {ds : List PyData} (r : DpAll K h vs ds) : DpAll K h vs.dropLast ds.dropLast := by
  rw [List.dropLast_eq_take, List.dropLast_eq_take, DpAll.length r]
  exact DpAll.take _ r
theorem qe_pop (ho : QE X o to) (hbase : attributeBase o "pop" X.env (eval o X.env) = eval o X.env := by rfl) (hline : (apos.endLine == cpos.line) = true := by rfl) :
    QE X (.Call (.Attribute o "pop" apos) [] [] cpos) (tPop3 to) :=
  (pe_bm0 PySem.F.plainAttrs_list PySem.F.slot_list_pop PySem.F.type_list_pop mt_pop ho hbase hline).imp fun σ H R ⟨w, env, S, Q, r0, en, t, q⟩ => by
    refine ⟨w, env, S, _, r0, en, t, fun w1 v d H1 S1 e1 r1 p1 t1 => ?_⟩
    split at t1
    · rename_i n ds ho1
      split at t1
      rotate_left
      · exact t1.elim
      rename_i d' hd'
      rw [List.getLast?_eq_getElem?] at hd'
      obtain ⟨a, xs, rfl, rfl, ha, hs, hu, hd, hz⟩ := own3_low r1 p1 ho1
      obtain ⟨u, h1, h2⟩ := DpAll.get hd hd'
      refine ⟨.inl ⟨rfl, xs, .inl (.inl hu)⟩, a, xs, u, rfl, rfl, hu, by rw [DpAll.length hd]; exact h1, ?_⟩
      exact q w1 u (.p d') _ _ e1 (r1.put (o' := .lst ds.dropLast) ha hs ⟨_, rfl, DpAll.dropLast hd, by rw [List.length_dropLast]; omega⟩) h2 t1
    · exact t1.elim
/-- xs.pop(i) -/
def tPopAt3 (to ti : TE3) : TE3 := fun env S Q => to env S fun o S1 => match own3 S1 o with
  | some _ => ti env S1 fun i S2 => match own3 S2 o, i with
    | some (n, ds), .p (.int k) => (match ixN ds.length k with
      | some j => (match ds[j]? with
        | some d => Q (.p d) (S2.set n (some (.lst (ds.eraseIdx j))))
        | none => False)
      | none => False)
    | _, _ => False
  | none => False
theorem qe_popAt (ho : QE X o to) (he : QE X e te) (hbase : attributeBase o "pop" X.env (eval o X.env) = eval o X.env := by rfl)
    (hfew : ((backTo cpos (starEach [e] X.env)).all (fun x => !x.1) && (backToKw cpos (keywordEach [] X.env)).all (fun x => x.1.isSome)
      && decide (([e] : List Expr).length + ([] : List Keyword).length + (if ([] : List Keyword).isEmpty then 0 else 1) < 30)) = true := by rfl)
    (hline : (apos.endLine == cpos.line) = true := by rfl) (hs : starEach [e] X.env = (false, eval e X.env) :: starEach [] X.env := by rfl) (hplain : (backTo cpos (starEach [] X.env)).any (·.1) = false := by rfl) :
    QE X (.Call (.Attribute o "pop" apos) [e] [] cpos) (tPopAt3 to te) :=
  (pe_bm PySem.F.plainAttrs_list PySem.F.slot_list_pop PySem.F.type_list_pop mt_popAt ho (pa_cons he pa_nil hs) hbase hfew hline hs hplain).imp fun σ H R ⟨w, env, S, Q, r0, en, t, q⟩ => by
    have hz : sizeLine = 16777216 := sizeLine_eq
    refine ⟨w, env, S, _, r0, en, t, fun w1 v d H1 S1 e1 r1 p1 t1 => ?_⟩
    split at t1
    · rename_i nd ho1
      obtain ⟨n0, ds0⟩ := nd
      obtain ⟨a0, xs0, rfl, hd0, _, _, hu0, _, _⟩ := own3_low r1 p1 ho1
      refine ⟨.inl ⟨rfl, xs0, .inl (.inl hu0)⟩, ?_⟩
      refine ⟨w1, env, S1, _, r1, en.mono e1, t1, fun w2 u c H2 S2 e2 r2 p2 t2 => ?_⟩
      split at t2
      · rename_i n ds k ho2
        split at t2
        rotate_left
        · exact t2.elim
        rename_i j hj
        split at t2
        rotate_left
        · exact t2.elim
        rename_i d' hd'
        obtain ⟨a, xs, hva, rfl, ha, hs, hu, hd, hzz⟩ := own3_low r2 (p1.mono e2) ho2
        cases hva
        have hl := DpAll.length hd
        obtain ⟨h1, h2, h3, h4⟩ := ixN_seq hj
        obtain ⟨y, h5, h6⟩ := DpAll.get hd hd'
        have := dp_int p2
        subst this
        refine ⟨_, xs, k, j, y, rfl, rfl, hu, by omega, by omega, by rw [hl]; exact h1, h5, ?_⟩
        exact q w2 y (.p d') _ _ (e1.trans e2) (r2.put (o' := .lst (ds.eraseIdx j)) ha hs ⟨_, rfl, DpAll.eraseIdx j hd, Nat.le_trans (List.length_eraseIdx_le ..) hzz⟩) (RepD.mono0 (Ex3.refl w2).toEx0 h6) t2
      · exact t2.elim
    · exact t1.elim

/-! ### isinstance(x, T) -/
def isTy (T : String) : PyData → Bool
  | .none => T == "NoneType"
  | .bool _ => T == "bool" || T == "int"
  | .int _ => T == "int"
  | .str _ => T == "str"
  | .list _ => T == "list"
  | .tuple _ => T == "tuple"
  | .dict _ => T == "dict"
def tIsi3 (T : String) (te : TE3) : TE3 := fun env S Q => te env S fun x S1 => match x with
  | .p d => Q (.p (.bool (isTy T d))) S1
  | .loc n => match S1[n]? with
    | some (some (.lst _)) => Q (.p (.bool (T == "list"))) S1
    | some (some (.dic _)) => Q (.p (.bool (T == "dict"))) S1
    | _ => False
  | _ => False
def kitAll (T : String) : Bool := decide (kitB "NoneType" T = some (T == "NoneType")) && decide (kitB "bool" T = some (T == "bool" || T == "int")) && decide (kitB "int" T = some (T == "int")) && decide (kitB "str" T = some (T == "str")) && decide (kitB "list" T = some (T == "list")) && decide (kitB "tuple" T = some (T == "tuple")) && decide (kitB "dict" T = some (T == "dict"))
theorem isi_low {K : PySem.W.Frag} {w : W3} {H : Hp} {S : S3} {v : V} {d : PyData} {T : String} (hk : kitAll T = true) (r : Rel3 K w H S) (p : Dp K w.h v d) : ∃ t, TyX K H v t ∧ PySem.W.kitOne K t (.type T) = some (isTy T d) := by
  unfold kitAll at hk
  simp only [Bool.and_eq_true, decide_eq_true_eq] at hk
  obtain ⟨⟨⟨⟨⟨⟨k1, k2⟩, k3⟩, k4⟩, k5⟩, k6⟩, k7⟩ := hk
  cases p with
  | non => exact ⟨_, .base .non, kit_ty k1⟩
  | bl b => exact ⟨_, .base (.bl b), kit_ty k2⟩
  | int i => exact ⟨_, .base (.int i), kit_ty k3⟩
  | str x => exact ⟨_, .base (.str x), kit_ty k4⟩
  | lst hs ha =>
    rcases hs with (hs | ⟨o, hs⟩) | ⟨o, its, n, hk, hc, _, hd, _, _⟩
    · exact ⟨_, .base (.lst (r.sub _ _ hs)), kit_ty k5⟩
    · exact ⟨_, .base (.frz (r.sub _ _ hs)), kit_ty k5⟩
    · exact ⟨_, .kList hk hc, kit_ty k5⟩
  | tup hs ha =>
    rcases hs with (hs | ⟨o, hs⟩) | ⟨o, its, n, hk, hc, hd, _, _⟩
    · exact ⟨_, .base (.tup (r.sub _ _ hs)), kit_ty k6⟩
    · exact ⟨_, .fTuple (r.sub _ _ hs), kit_ty k6⟩
    · exact ⟨_, .kTuple hk hc, kit_ty k6⟩
  | dct hs ha => exact ⟨_, .base (.dK (r.sub _ _ hs)), kit_ty k7⟩
theorem qe_isi {T : String} {x : Str} {pi px : Pos} (hk : kitAll T = true) (hg : Gl X "isinstance") (hm : X.mg "isinstance" = none) (hgx : Gl X x) (hmx : X.mg x = none) (hvx : bootBuiltins x = some (.type T)) (hnx : x ≠ "__name__") (hdx : (x == ("__debug__" : Str)) = false) (he : QE X e te)
    (h1 : starEach [e, .Name x px] X.env = (false, eval e X.env) :: starEach [.Name x px] X.env := by rfl) (h2 : starEach [.Name x px] X.env = (false, eval (.Name x px) X.env) :: starEach [] X.env := by rfl) (hpl : (backTo pos (starEach [.Name x px] X.env)).any (·.1) = false := by rfl) :
    QE X (.Call (.Name "isinstance" pi) [e, .Name x px] [] pos) (tIsi3 T te) :=
  (pe_callB call_isi hg hm (by decide +kernel) (pa_cons he (pa_cons (pe_bltn (v := .ty T) hgx hmx hvx rfl hnx hdx) pa_nil h2) h1) (by decide) (by decide) h1 hpl).imp fun σ H R ⟨w, env, S, Q, r0, en, t, q⟩ => by
    refine ⟨w, env, S, _, r0, en, t, fun w1 v d H1 S1 e1 r1 p1 t1 => ?_⟩
    split at t1
    · rename_i d
      obtain ⟨ty, h3, h4⟩ := isi_low hk r1 p1
      exact ⟨v, .ty T, ty, .type T, _, rfl, .ty T, h3, h4, q _ _ _ _ _ e1 r1 rep_bl t1⟩
    · unfold kitAll at hk
      simp only [Bool.and_eq_true, decide_eq_true_eq] at hk
      obtain ⟨⟨⟨⟨⟨⟨k1, k2⟩, k3⟩, k4⟩, k5⟩, k6⟩, k7⟩ := hk
      obtain ⟨a, ha, rfl⟩ := p1
      split at t1
      · rename_i ds hs
        obtain ⟨_, u, hu, xs, rfl, hd, hz⟩ := r1.live _ a _ ha hs
        exact ⟨_, .ty T, _, .type T, _, rfl, .ty T, .base (.lst hu), kit_ty k5, q _ _ _ _ _ e1 r1 rep_bl t1⟩
      · rename_i ds hs
        obtain ⟨_, u, hu, xs, rfl, hd⟩ := r1.live _ a _ ha hs
        exact ⟨_, .ty T, _, .type T, _, rfl, .ty T, .base (.dT hu), kit_ty k7, q _ _ _ _ _ e1 r1 rep_bl t1⟩
      · exact t1.elim
    · exact t1.elim
end
/-! ### a law's own entry -/
theorem dpAll_ints {K : PySem.W.Frag} {h : Hp} : ∀ ns : List Int, DpAll K h (ns.map V.int) (ns.map PyData.int)
  | [] => .nil
  | n :: ns => .cons (.int n) (dpAll_ints ns)
def spLaw3 : Sp3 := fun ds S Q => ∃ ns : List Int, ds = [.p (.list (ns.map PyData.int))] ∧ ns.length ≤ 63 ∧ S = [] ∧ ∀ S', Q (.p (.bool true)) S'
theorem law_in {K : PySem.W.Frag} {H : Hp} {a : Addr} {ns : List Int} {Q : VK} (hl : ns.length ≤ 63) (hS : SqL K H a (ns.map V.int)) (hQ : ∀ H', Q (.bl true) H') : lowC K spLaw3 [.ref a] H Q := by
  have hz : sizeLine = 16777216 := sizeLine_eq
  have fin : ∀ w : W3, Rel3 K w H [] → SqL K w.h a (ns.map V.int) → lowC K spLaw3 [.ref a] H Q := fun w r hq => by
    refine ⟨w, [], [.p (.list (ns.map PyData.int))], fun d _ => d = .p (.bool true), r, ⟨.lst hq (dpAll_ints ns), trivial⟩, ⟨ns, rfl, hl, rfl, fun _ => rfl⟩, fun w' v d H' S' e r' p h => ?_⟩
    subst h
    have := dp_bl p
    subst this
    exact hQ H'
  have tracked : ∀ u, H a = some u → (u = .lst (ns.map V.int) ∨ ∃ o, u = .frz o (.lst (ns.map V.int))) → lowC K spLaw3 [.ref a] H Q := fun u hu hk => by
    refine fin ⟨[], upd (fun _ => none) a u, []⟩ ⟨fun b x e => ?_, fun b x e => ?_, rfl, fun n b o e => by simp at e, fun n b e => by simp at e, List.nodup_nil, fun b x hb => by simp at hb, PnOk.nil⟩ ?_
    · have e' : upd (fun _ => none) a u b = some x := e
      by_cases hb : b = a
      · subst hb
        rw [upd_same] at e'
        cases e'
        exact hu
      · rw [upd_ne hb] at e'
        cases e'
    · have e' : upd (fun _ => none) a u b = some x := e
      by_cases hb : b = a
      · subst hb
        rw [upd_same] at e'
        cases e'
        rcases hk with rfl | ⟨o, rfl⟩
        · show (ns.map V.int).length ≤ _
          rw [List.length_map]
          omega
        · show (ns.map V.int).length ≤ _
          rw [List.length_map]
          omega
      · rw [upd_ne hb] at e'
        cases e'
    · rcases hk with rfl | ⟨o, rfl⟩
      · exact .inl (.inl (upd_same (H := fun _ => none) (a := a)))
      · exact .inl (.inr ⟨o, upd_same (H := fun _ => none) (a := a)⟩)
  rcases hS with (h | ⟨o, h⟩) | h
  · exact tracked _ h (.inl rfl)
  · exact tracked _ h (.inr ⟨o, rfl⟩)
  · exact fin ⟨[], fun _ => none, []⟩ ⟨(fun b x e => nomatch e), (fun b x e => nomatch e), rfl, (fun n b o e => by simp at e), (fun n b e => by simp at e), List.nodup_nil, (fun b x hb => by simp at hb), PnOk.nil⟩ (.inr h)
/-! ### repr of ints, None, truths -/
def rRepr3 : C3 := fun ds S Q => match ds with
  | [.p (.int i)] => i.natAbs.log2 < 1920 ∧ Q (.p (.str (toString i))) S
  | [.p .none] => Q (.p (.str "None")) S
  | _ => False
section
variable {X : Cx}
theorem call_repr_i : CallR X (.builtin "repr") (fun xs H Q => (∃ i, xs = [.int i] ∧ i.natAbs.log2 < 1920 ∧ Q (.str (toString i)) H) ∨ (xs = [.non] ∧ Q (.str "None") H)) := by
  intro pins s σ H xs us Q I r h
  rcases h with ⟨i, rfl, hz, q⟩ | ⟨rfl, q⟩
  · obtain ⟨u, rfl, t, rfl⟩ := vals1 r
    exact PySem.P.repr_of_int hz ⟨.str _, H, I.tok _, ⟨_, rfl⟩, q⟩
  · obtain ⟨u, rfl, r1⟩ := vals1 r
    cases r1
    exact PySem.P.repr_of_none ⟨.str _, H, I.tok _, ⟨_, rfl⟩, q⟩
theorem cq_repr : CQ X (.builtin "repr") rRepr3 := callq call_repr_i fun w S ds xs H Q R r0 p1 t q => by
  unfold rRepr3 at t
  split at t
  · obtain ⟨v, rfl, p⟩ := rds1 p1
    have := dp_int p
    subst this
    exact .inl ⟨_, rfl, t.1, q.str r0 t.2⟩
  · obtain ⟨v, rfl, p⟩ := rds1 p1
    have := dp_non p
    subst this
    exact .inr ⟨rfl, q.str r0 t⟩
  · exact t.elim
def rNeg3 : U3 := fun x S Q => match x with
  | .p (.int i) => Q (.p (.int (-i))) S
  | _ => False
theorem uq_neg : UQ X (unaryOp .USub) rNeg3 := UnR.imp un_neg fun x H R ⟨w, S, d, Q, r0, p, t, q⟩ => by
  unfold rNeg3 at t
  split at t
  · exact ⟨_, dp_int p, q.int r0 t⟩
  · exact t.elim
end
end L3

namespace L3
open PySem PySem.Spec PyProof.Rows L2
/-! ### for readings -/
theorem eqv_int (a b : Int) : PyData.eqv (.int a) (.int b) = (a == b) := by simp [PyData.eqv]
theorem eqv_bool (a b : Bool) : PyData.eqv (.bool a) (.bool b) = (a == b) := by simp [PyData.eqv]
theorem eqv_str (a b : Str) : PyData.eqv (.str a) (.str b) = (a == b) := by simp [PyData.eqv]
theorem eqv_ni (a : Int) : PyData.eqv .none (.int a) = false := by simp [PyData.eqv]
theorem eqv_in (a : Int) : PyData.eqv (.int a) .none = false := by simp [PyData.eqv]
theorem shaped_int (a : Int) : SeqAt.shaped (.int a) = true := rfl
theorem shaped_bool (a : Bool) : SeqAt.shaped (.bool a) = true := rfl
theorem shaped_none : SeqAt.shaped .none = true := rfl
theorem strOk_of (s : String) : PyData.strOk (PySem.Str.ofString s) = true := by
  rw [PySem.Str.ofString_eq_toList]
  unfold PyData.strOk
  rw [← Array.all_toList]
  simp only [List.all_eq_true, decide_eq_true_eq]
  intro c hc
  obtain ⟨d, _, rfl⟩ := List.mem_map.mp (by simpa using hc)
  have := d.valid
  rcases this with h | ⟨_, h⟩
  · exact Nat.lt_trans h (by decide)
  · exact h
theorem shaped_str {x : Str} (h : PyData.strOk x = true) : SeqAt.shaped (.str x) = true := by
  unfold SeqAt.shaped PyData.canLay0
  rw [h]
  rfl
theorem eqv_str_self (a : Str) : PyData.eqv (.str a) (.str a) = true := by rw [eqv_str]; simp
theorem shaped_ofStr (s : String) : SeqAt.shaped (.str (PySem.Str.ofString s)) = true := shaped_str (strOk_of s)
theorem Fits.nil {L : Nat} : Fits [] [] L := ⟨rfl, fun i d h => by simp [at3] at h⟩
theorem Fits.drop {r r' : E3} {x : Option D} {L : Nat} (h : Fits r r' L) : Fits (x :: r) (none :: r') L := ⟨congrArg (· + 1) h.1, fun i d q => by
  cases i with
  | zero => simp [at3] at q
  | succ i => exact h.2 i d q⟩
theorem Fits.keep {r r' : E3} {x : PyData} {L : Nat} (h : Fits r r' L) : Fits (some (.p x) :: r) (some (.p x) :: r') L := ⟨congrArg (· + 1) h.1, fun i d q => by
  cases i with
  | zero =>
    simp [at3] at q
    subst q
    exact ⟨rfl, trivial⟩
  | succ i => exact h.2 i d q⟩
theorem Fits.loc {r r' : E3} {n L : Nat} (hn : n < L) (h : Fits r r' L) : Fits (some (.loc n) :: r) (some (.loc n) :: r') L := ⟨congrArg (· + 1) h.1, fun i d q => by
  cases i with
  | zero =>
    simp [at3] at q
    subst q
    exact ⟨rfl, hn⟩
  | succ i => exact h.2 i d q⟩
theorem wk_self {n : Nat} {I : E3 → S3 → Prop} {e : E3} {s : S3} (h : I e s) : Wk n I e s := .inl h
/-- a hand of three ints at n -/
def Hd (S : S3) (n : Nat) : Prop := ∃ g x c : Int, S[n]? = some (some (.lst [.int g, .int x, .int c]))
def HdTo (n : Nat) (S S' : S3) : Prop := ∃ g x c : Int, S' = S.set n (some (.lst [.int g, .int x, .int c]))
theorem Hd.lt {S : S3} {n : Nat} (h : Hd S n) : n < S.length := by
  obtain ⟨_, _, _, e⟩ := h
  exact (List.getElem?_eq_some_iff.mp e).1
theorem HdTo.len {S S' : S3} {n : Nat} (h : HdTo n S S') : S'.length = S.length := by
  obtain ⟨_, _, _, rfl⟩ := h
  simp
theorem HdTo.hd {S S' : S3} {n : Nat} (h : HdTo n S S') (h0 : Hd S n) : Hd S' n := by
  obtain ⟨g, x, c, rfl⟩ := h
  exact ⟨g, x, c, by rw [List.getElem?_set_self h0.lt]⟩
theorem HdTo.trans {S S' S'' : S3} {n : Nat} (h : HdTo n S S') (h' : HdTo n S' S'') : HdTo n S S'' := by
  obtain ⟨g, x, c, rfl⟩ := h
  obtain ⟨g', x', c', rfl⟩ := h'
  exact ⟨g', x', c', by rw [List.set_set]⟩
theorem fin_hd {n : Nat} {S S' : S3} {Q : K3} {d : PyData} (h : HdTo n S S') (q : Q (.p d) S') : Fin3 S Q (.p d) S' := fin_all (by rw [h.len]; exact Nat.le_refl _) trivial q
theorem ixN_lit (n k : Nat) : ixN n (no_index (@OfNat.ofNat Int k instOfNat)) = if k < n then some k else none := by
  show ixN n ((k : Nat) : Int) = _
  unfold ixN
  rw [if_pos (by omega)]
  by_cases h : k < n
  · rw [if_pos (by omega), if_pos h]
    simp
  · rw [if_neg (by omega), if_neg h]
theorem atI_lit {α : Type} (xs : List α) (k : Nat) : atI xs (no_index (@OfNat.ofNat Int k instOfNat)) = xs[k]? := by
  unfold atI
  rw [ixN_lit]
  by_cases h : k < xs.length
  · rw [if_pos h]
    rfl
  · rw [if_neg h, List.getElem?_eq_none (by omega)]
    rfl
theorem atI_of {α : Type} {xs : List α} {i : Int} {v : α} (h0 : 0 ≤ i) (h : xs[i.toNat]? = some v) : atI xs i = some v := by
  obtain ⟨n, rfl⟩ := Int.eq_ofNat_of_zero_le h0
  exact atI_nat (by simpa using h)
theorem atI_neg1 {α : Type} (xs : List α) : atI xs (-1) = xs.getLast? := by
  unfold atI ixN
  rw [if_neg (by decide)]
  by_cases h : xs = []
  · subst h
    rfl
  · have hl : 0 < xs.length := by
      cases xs with
      | nil => exact absurd rfl h
      | cons => simp
    rw [if_pos (by omega), List.getLast?_eq_getElem?]
    show xs[(-1 + (xs.length : Int)).toNat]? = _
    congr 1
    omega
theorem mulOk_ite (z : Int) (b : Prop) [Decidable b] : MulOk z (if b then 1 else 0) := by
  refine .inr (.inl ?_)
  split <;> constructor <;> decide
instance (i j : Int) : Decidable (MulOk i j) := by unfold MulOk CMulW; infer_instance
instance (i j : Int) : Decidable (DivOk i j) := by unfold DivOk; infer_instance
instance (i j : Int) : Decidable (PowOk i j) := by unfold PowOk; infer_instance
end L3

namespace L3
open PySem PySem.Spec PyProof.Rows L2
/-! ### slices -/
abbrev TO3 := E3 → S3 → (Option Int → S3 → Prop) → Prop
def lowO (K : PySem.W.Frag) (t : TO3) : TO := fun σ H R => ∃ w env S Q, Rel3 K w H S ∧ EnvR K w σ env ∧ t env S Q ∧ ∀ w' o H' S', Ex3 w w' → Rel3 K w' H' S' → Q o S' → R o H'
abbrev QO (X : Cx) (e : Option Expr) (t : TO3) : Prop := PO X e (lowO X.K t)
def tNoPart3 : TO3 := fun _ S Q => Q none S
def tPart3 (te : TE3) : TO3 := fun env S Q => te env S fun x S1 => match x with
  | .p (.int i) => Q (some i) S1
  | _ => False
def cut3 {α : Type} (ds : List α) (lo hi : Option Int) : List α := (ds.drop (HT.sIx ds.length 0 lo)).take (HT.sIx ds.length ds.length hi - HT.sIx ds.length 0 lo)
theorem cut3_len {α : Type} (ds : List α) (lo hi : Option Int) : (cut3 ds lo hi).length ≤ ds.length := by
  unfold cut3
  rw [List.length_take, List.length_drop]
  omega
section
variable {X : Cx} {e : Expr} {te : TE3} {lo hi : Option Expr} {tl th : TO3} {pos p2 : Pos}
theorem qo_none : QO X none tNoPart3 := ⟨fun pins s σ H Q I q => po_none.run pins s σ H Q I (let ⟨w, env, S, Q', r, en, t, q'⟩ := q; q' w none H S (Ex3.refl w) r t)⟩
theorem qo_some (h : QE X e te) : QO X (some e) (tPart3 te) := ⟨fun pins s σ H R I q => (po_some h).run pins s σ H R I (by
  obtain ⟨w, env, S, Q, r, en, t, q⟩ := q
  refine ⟨w, env, S, _, r, en, t, fun w1 v d H1 S1 e1 r1 p1 t1 => ?_⟩
  split at t1
  · exact ⟨_, dp_int p1, q w1 _ H1 S1 e1 r1 t1⟩
  · exact t1.elim)⟩
theorem dp_cut {K : PySem.W.Frag} {h : Hp} {vs : List V} {ds : List PyData} (r : DpAll K h vs ds) (lo hi : Option Int) : DpAll K h (cutV vs lo hi) (cut3 ds lo hi) := by
  unfold cutV cut3
  rw [DpAll.length r]
  exact DpAll.take _ (DpAll.drop _ r)
/-- x[lo:hi]: of a tuple, of a text, of a list (the new one changes no more) -/
def tSl3 (te : TE3) (tl th : TO3) : TE3 := fun env S Q => te env S fun x S1 => tl env S1 fun l S2 => th env S2 fun u S3 => match x with
  | .p (.tuple ds) => Q (.p (.tuple (cut3 ds l u))) S3
  | .p (.str z) => z.length ≤ 16777216 ∧ Q (.p (.str (cutS z l u))) S3
  | d => match lst3 S3 d with
    | some ds => Q (.p (.list (cut3 ds l u))) S3
    | none => False
def tSlN3 (te : TE3) (tl th : TO3) : TN3 := fun env S Q => te env S fun x S1 => tl env S1 fun l S2 => th env S2 fun u S3 => match lst3 S3 x with
  | some ds => Q (cut3 ds l u) S3
  | none => False
theorem cut3_all {α : Type} (ds : List α) (lo hi : Option Int) (h : HT.sIx ds.length 0 lo = 0 ∧ HT.sIx ds.length ds.length hi = ds.length) : cut3 ds lo hi = ds := by
  unfold cut3
  rw [h.1, h.2, List.drop_zero, Nat.sub_zero, List.take_length]
theorem qe_slice (he : QE X e te) (hl : QO X lo tl) (hh : QO X hi th) : QE X (.Subscript e (.Slice lo hi none p2) pos) (tSl3 te tl th) :=
  (pe_slice (SlR.or sl_tupA (SlR.or sl_str sl_list)) he hl hh).imp fun σ H R ⟨w, env, S, Q, r0, en, t, q⟩ => by
    have hz : sizeLine = 16777216 := sizeLine_eq
    refine ⟨w, env, S, _, r0, en, t, fun w1 v d H1 S1 e1 r1 p1 t1 => ?_⟩
    refine ⟨w1, env, S1, _, r1, en.mono e1, t1, fun w2 l H2 S2 e2 r2 t2 => ?_⟩
    refine ⟨w2, env, S2, _, r2, (en.mono e1).mono e2, t2, fun w3 u H3 S3 e3 r3 t3 => ?_⟩
    have p3 := (p1.mono e2).mono e3
    have q3 := (q.mono e1).mono (e2.trans e3)
    split at t3
    · rename_i ds
      obtain ⟨a, xs, rfl, hq, ha⟩ := dp_tup_ref p3
      have hl := DpAll.length ha
      have hlen := len_tup r3 p3
      refine .inl ⟨a, xs, rfl, Same.sqT r3.sub hq, fun hc => ?_, fun _ => q3.tup r3 (dp_cut ha l u) (Nat.le_trans (cut3_len _ _ _) hlen) t3⟩
      rw [hl] at hc
      rw [cut3_all ds l u hc] at t3
      exact q3.old r3 p3 t3
    · have := dp_str p3
      subst this
      exact .inr (.inl ⟨_, rfl, by omega, q3.str r3 t3.2⟩)
    · split at t3
      · rename_i ds h1
        obtain ⟨a, xs, rfl, hq, ha, hlen⟩ := lst3_low r3 p3 h1
        exact .inr (.inr ⟨a, xs, rfl, hq, q3.lst r3 (dp_cut ha l u) (Nat.le_trans (cut3_len _ _ _) hlen) t3⟩)
      · exact t3.elim
theorem qn_slice (he : QE X e te) (hl : QO X lo tl) (hh : QO X hi th) : QN X (.Subscript e (.Slice lo hi none p2) pos) (tSlN3 te tl th) :=
  L2.PE.imp (pe_slice sl_list he hl hh) fun σ H R ⟨w, env, S, Q, r0, en, t, q⟩ => by
    refine ⟨w, env, S, _, r0, en, t, fun w1 v d H1 S1 e1 r1 p1 t1 => ?_⟩
    refine ⟨w1, env, S1, _, r1, en.mono e1, t1, fun w2 l H2 S2 e2 r2 t2 => ?_⟩
    refine ⟨w2, env, S2, _, r2, (en.mono e1).mono e2, t2, fun w3 u H3 S3 e3 r3 t3 => ?_⟩
    have p3 := (p1.mono e2).mono e3
    split at t3
    · rename_i ds h1
      obtain ⟨a, xs, rfl, hq, ha, hlen⟩ := lst3_low r3 p3 h1
      exact ⟨a, xs, rfl, hq, fun p hn => q w3 p _ _ H3 S3 ((e1.trans e2).trans e3) r3 hn (dp_cut ha l u) (Nat.le_trans (cut3_len _ _ _) hlen) t3⟩
    · exact t3.elim
end
/-! ### tuple * int -/
theorem tuple_mul_same (l : Addr) (items : Array Value) (n : Nat) (dd : Option Addr) (sl : Array (Option Value)) (x : Int) (u : Tok) (c0 : (decide (x < -(2 ^ 63)) || decide (x ≥ 2 ^ 63)) = false) (c1 : (items.isEmpty || x == 1) = true) :
    Meets (Builtin.«tuple.__mul__» ⟨[.ref l, .int x u], []⟩) (fun _ R s => s.heap.get? l = some { cls := .type "tuple", dict := dd, data := .seq items n, slots := sl } ∧ R (.ok (.ret (Value.ref l))) s) :=
  .of_wp fun prog w A R s h => by
    obtain ⟨hp, g, d, tk, os⟩ := s
    obtain ⟨hl, h⟩ := h
    have f1 := AutoSeq1.idx_int
    wp_walk using wpAny_loadPart' hl
    repeat (first
      | (refine wpAny_ite_false (decide_eq_false (by rw [c0]; exact Bool.false_ne_true)) ?_; wp_walk using wpAny_loadPart' hl)
      | (refine wpAny_ite_true (decide_eq_true c1) ?_; wp_walk using wpAny_loadPart' hl))
    all_goals first | exact ⟨_, rfl, h⟩ | skip
theorem tuple_mul_none (l : Addr) (items : Array Value) (n : Nat) (dd : Option Addr) (sl : Array (Option Value)) (x : Int) (u : Tok) (c0 : (decide (x < -(2 ^ 63)) || decide (x ≥ 2 ^ 63)) = false) (c1 : (items.isEmpty || x == 1) = false) (c2 : (decide (x ≤ 0) || items.isEmpty) = true) :
    Meets (Builtin.«tuple.__mul__» ⟨[.ref l, .int x u], []⟩) (fun _ R s => s.heap.get? l = some { cls := .type "tuple", dict := dd, data := .seq items n, slots := sl } ∧
      R (.ok (.ret (Value.ref s.heap.objs.size))) { s with heap := s.heap.push { cls := Value.type "tuple", data := Data.seq #[] }, toks := s.toks }) :=
  .of_wp fun prog w A R s h => by
    obtain ⟨hp, g, d, tk, os⟩ := s
    obtain ⟨hl, h⟩ := h
    have f1 := AutoSeq1.idx_int
    wp_walk using wpAny_loadPart' hl
    repeat (first
      | (refine wpAny_ite_false (decide_eq_false (by rw [c0]; exact Bool.false_ne_true)) ?_; wp_walk using wpAny_loadPart' hl)
      | (refine wpAny_ite_false (decide_eq_false (by rw [c1]; exact Bool.false_ne_true)) ?_; wp_walk using wpAny_loadPart' hl)
      | (refine wpAny_ite_true (decide_eq_true c2) ?_; wp_walk using wpAny_loadPart' hl))
    all_goals first | exact ⟨_, rfl, h⟩ | skip
def rRepA (K : PySem.W.Frag) : R2 := fun x y H Q => ∃ l k xs, x = .ref l ∧ y = .int k ∧ SqT K H l xs ∧ -4611686018427387904 ≤ k ∧ k ≤ 16777216 ∧ xs.length * k.toNat ≤ sizeLine ∧
  ((xs = [] ∨ k = 1) → Q (.ref l) H) ∧ (¬ (xs = [] ∨ k = 1) → ∀ p, H p = none → Q (.ref p) (upd H p (.tup (List.replicate k.toNat xs).flatten)))
theorem op_repA {X : Cx} : OpR X (binaryOp .Mult) (rRepA X.K) := by
  intro pins s σ H x y v u Q I rx ry h
  obtain ⟨l, k, xs, rfl, rfl, hT, h1, h2, hz, q1, q2⟩ := h
  cases rx
  obtain ⟨t, rfl⟩ := ry
  obtain ⟨its, r, ⟨⟨cls, dd, data, sl⟩, ho, hc, n, hd⟩, hs⟩ := I.tuple hT
  simp only at hc hd
  subst hc hd
  have hle : its.length = xs.length := r.length.symm
  have hsz0 : its.toArray.size = xs.length := by rw [List.size_toArray, hle]
  have hzl : sizeLine = 16777216 := sizeLine_eq
  have c0 : (decide (k < -(2 ^ 63)) || decide (k ≥ 2 ^ 63)) = false := by
    rw [decide_eq_false (by omega), decide_eq_false (by omega)] <;> rfl
  have hemp : its.toArray.isEmpty = true ↔ xs = [] := by
    rw [Array.isEmpty_iff_size_eq_zero, hsz0]
    exact List.length_eq_zero_iff
  have fin : ∀ {Q' : Value → Shared → Prop}, (call (.builtin "tuple.__mul__") [.ref l, .int k t] : Sem Value) = call (.builtin "tuple.__mul__") [.ref l, .int k t] → True := fun _ => trivial
  by_cases hsame : xs = [] ∨ k = 1
  · have c1 : (its.toArray.isEmpty || k == 1) = true := by
      rcases hsame with h | h
      · rw [hemp.mpr h, Bool.true_or]
      · rw [h]; simp
    refine wpAny_binaryOp_repeat_ref (T := "tuple") (U := "int") (by decide) ⟨_, ho, rfl⟩ (fun s' => typeIs_int s' k t) noFill_tuple_mul F.fills_int_mul F.slot_int_rmul repeat_tuple F.slot_int_index.lookup
      (call_meets F.slot_int_rmul (typeIs_int s k t) F.entry_int_rmul (F.args_int_rmul_2 _ _) (int_rmul_tuple k t l its.toArray n dd sl)
        ⟨ho, rfl, ⟨_, ho, rfl⟩, call_meets F.slot_tuple_mul ⟨_, ho, rfl⟩ F.entry_tuple_mul (F.args_tuple_mul_2 _ _) (tuple_mul_same l its.toArray n dd sl k t c0 c1) ⟨ho, ?_⟩⟩)
    exact ⟨.ref l, H, I, rfl, q1 hsame⟩
  · have c1 : (its.toArray.isEmpty || k == 1) = false := by
      rw [Bool.or_eq_false_iff]
      refine ⟨?_, beq_eq_false_iff_ne.mpr fun z => hsame (.inr z)⟩
      rw [← Bool.not_eq_true]
      exact fun z => hsame (.inl (hemp.mp z))
    have flen : (List.replicate k.toNat its).flatten.length ≤ sizeLine := by
      rw [PyProof.Rows.lm_len_rep_flat, hle, Nat.mul_comm]
      exact hz
    by_cases hk : k ≤ 0
    · have c2 : (decide (k ≤ 0) || its.toArray.isEmpty) = true := by rw [decide_eq_true hk, Bool.true_or]
      refine wpAny_binaryOp_repeat_ref (T := "tuple") (U := "int") (by decide) ⟨_, ho, rfl⟩ (fun s' => typeIs_int s' k t) noFill_tuple_mul F.fills_int_mul F.slot_int_rmul repeat_tuple F.slot_int_index.lookup
        (call_meets F.slot_int_rmul (typeIs_int s k t) F.entry_int_rmul (F.args_int_rmul_2 _ _) (int_rmul_tuple k t l its.toArray n dd sl)
          ⟨ho, rfl, ⟨_, ho, rfl⟩, call_meets F.slot_tuple_mul ⟨_, ho, rfl⟩ F.entry_tuple_mul (F.args_tuple_mul_2 _ _) (tuple_mul_none l its.toArray n dd sl k t c0 c1 c2) ⟨ho, ?_⟩⟩)
      have e0 : k.toNat = 0 := by omega
      have q2' := q2 hsame s.heap.objs.size (I.hok.fresh (Nat.le_refl _))
      rw [e0] at q2'
      refine ⟨.ref s.heap.objs.size, _, I.laid (t' := s.toks) (o := .tup []) (fun b ob q => Heap.get?_push_of_some _ q) (Nat.le_refl _) ?_, rfl, q2'⟩
      exact ⟨Nat.zero_le _, [], .nil, IsTup.new _ _⟩
    · have c2 : (decide (k ≤ 0) || its.toArray.isEmpty) = false := by
        rw [decide_eq_false hk, Bool.false_or]
        exact (Bool.or_eq_false_iff.mp c1).1
      have hm : ((its.toArray.size : Nat) : Int) * k ≤ 16777216 := by
        rw [hsz0]
        have a1 : ((xs.length : Nat) : Int) * k = ((xs.length * k.toNat : Nat) : Int) := by
          rw [Int.natCast_mul]
          congr 1
          omega
        omega
      have c4 : Builtin.Tuple.tupleTooMany (((its.toArray.size : Nat) : Int) * k) = false := by
        unfold Builtin.Tuple.tupleTooMany
        rw [sizeLine_eq]
        exact decide_eq_false (by omega)
      refine wpAny_binaryOp_repeat_ref (T := "tuple") (U := "int") (by decide) ⟨_, ho, rfl⟩ (fun s' => typeIs_int s' k t) noFill_tuple_mul F.fills_int_mul F.slot_int_rmul repeat_tuple F.slot_int_index.lookup
        (call_meets F.slot_int_rmul (typeIs_int s k t) F.entry_int_rmul (F.args_int_rmul_2 _ _) (int_rmul_tuple k t l its.toArray n dd sl)
          ⟨ho, rfl, ⟨_, ho, rfl⟩, call_meets F.slot_tuple_mul ⟨_, ho, rfl⟩ F.entry_tuple_mul (F.args_tuple_mul_2 _ _) (tuple_mulW l its.toArray n dd sl k t c0 c1 c2 (by omega) c4 (by rw [size_rep, List.size_toArray]; exact flen)) ⟨ho, ?_⟩⟩)
      rw [size_rep]
      refine ⟨.ref s.heap.objs.size, _, I.laid (t' := s.toks) (o := .tup (List.replicate k.toNat xs).flatten) (fun b ob q => Heap.get?_push_of_some _ q) (Nat.le_refl _) ?_, rfl, q2 hsame _ (I.hok.fresh (Nat.le_refl _))⟩
      exact ⟨by rw [PyProof.Rows.lm_len_rep_flat, Nat.mul_comm]; exact hz, _, r.rep k.toNat, IsTup.new _ _⟩
/-- a tuple so and so often -/
def rep3 {α : Type} (ds : List α) (k : Int) : List α := (List.replicate k.toNat ds).flatten
theorem rep3_len {α : Type} (ds : List α) (k : Int) : (rep3 ds k).length = ds.length * k.toNat := by
  unfold rep3
  rw [PyProof.Rows.lm_len_rep_flat, Nat.mul_comm]
theorem rep3_one {α : Type} (ds : List α) : rep3 ds 1 = ds := by
  unfold rep3
  simp
theorem rep3_nil {α : Type} (k : Int) : rep3 ([] : List α) k = [] := by
  unfold rep3
  simp
/-- *: of ints, of a tuple and an int -/
def rMulT3 : R3 := fun x y S Q => match x, y with
  | .p (.int i), .p (.int j) => MulOk i j ∧ Q (.p (.int (i * j))) S
  | .p (.tuple ds), .p (.int k) => (-4611686018427387904 ≤ k ∧ k ≤ 16777216 ∧ ds.length * k.toNat ≤ 16777216) ∧ Q (.p (.tuple (rep3 ds k))) S
  | _, _ => False
theorem oq_mulT {X : Cx} : OQ X (binaryOp .Mult) rMulT3 := opq (op_mul.or (op_mulW.or op_repA)) fun w S d e x y H Q R r0 p1 p2 t q => by
  have hz : sizeLine = 16777216 := sizeLine_eq
  unfold rMulT3 at t
  split at t
  · rename_i i j
    obtain ⟨hc, t⟩ := t
    rcases hc with hc | hc | hc
    · exact .inl ⟨i, j, dp_int p1, dp_int p2, .inl (by omega), q.int r0 t⟩
    · exact .inl ⟨i, j, dp_int p1, dp_int p2, .inr (by omega), q.int r0 t⟩
    · exact .inr (.inl ⟨i, j, dp_int p1, dp_int p2, hc, q.int r0 t⟩)
  · rename_i ds k
    obtain ⟨⟨h1, h2, h3⟩, t⟩ := t
    obtain ⟨l, xs, rfl, hq, ha⟩ := dp_tup_ref p1
    have hl := DpAll.length ha
    refine .inr (.inr ⟨l, k, xs, rfl, dp_int p2, Same.sqT r0.sub hq, h1, h2, by rw [hl]; omega, fun hs => ?_, fun _ => q.tup r0 (DpAll.flatten ha k.toNat) (by rw [← rep3, rep3_len]; omega) t⟩)
    rcases hs with hs | hs
    · subst hs
      cases ha
      rw [rep3_nil] at t
      exact q.old r0 p1 t
    · subst hs
      rw [rep3_one] at t
      exact q.old r0 p1 t
  · exact t.elim
/-! ### built-ins over lists -/
def allP {α : Type} (f : PyData → Option α) : List PyData → Option (List α)
  | [] => some []
  | d :: ds => match f d, allP f ds with
    | some x, some xs => some (x :: xs)
    | _, _ => none
def bl? : PyData → Option Bool
  | .bool b => some b
  | _ => none
def int? : PyData → Option Int
  | .int b => some b
  | _ => none
theorem allP_bl : ∀ {ds : List PyData} {bs : List Bool}, allP bl? ds = some bs → ds = bs.map PyData.bool
  | [], _, h => by cases h; rfl
  | d :: ds, bs, h => by
    unfold allP at h
    split at h
    · rename_i x xs h1 h2
      cases h
      rw [List.map_cons, ← allP_bl h2]
      cases d <;> first | (cases h1; rfl) | cases h1
    · cases h
theorem allP_int : ∀ {ds : List PyData} {bs : List Int}, allP int? ds = some bs → ds = bs.map PyData.int
  | [], _, h => by cases h; rfl
  | d :: ds, bs, h => by
    unfold allP at h
    split at h
    · rename_i x xs h1 h2
      cases h
      rw [List.map_cons, ← allP_int h2]
      cases d <;> first | (cases h1; rfl) | cases h1
    · cases h
theorem allP_bls : ∀ bs : List Bool, allP bl? (bs.map PyData.bool) = some bs
  | [] => rfl
  | b :: bs => by rw [List.map_cons]; unfold allP; rw [allP_bls bs]; rfl
theorem allP_ints : ∀ bs : List Int, allP int? (bs.map PyData.int) = some bs
  | [] => rfl
  | b :: bs => by rw [List.map_cons]; unfold allP; rw [allP_ints bs]; rfl
theorem dp_bls {K : PySem.W.Frag} {h : Hp} : ∀ {bs : List Bool} {vs : List V}, DpAll K h vs (bs.map PyData.bool) → vs = bs.map V.bl
  | [], _, r => by cases r; rfl
  | b :: bs, _, r => by
    cases r with
    | cons r1 r2 =>
      cases r1
      rw [dp_bls r2, List.map_cons]
theorem dp_ints {K : PySem.W.Frag} {h : Hp} : ∀ {bs : List Int} {vs : List V}, DpAll K h vs (bs.map PyData.int) → vs = bs.map V.int
  | [], _, r => by cases r; rfl
  | b :: bs, _, r => by
    cases r with
    | cons r1 r2 =>
      cases r1
      rw [dp_ints r2, List.map_cons]
def rBls3 (g : List Bool → PyData) : C3 := fun ds S Q => match ds with
  | [d] => match lst3 S d with
    | some es => (match allP bl? es with
      | some bs => Q (.p (g bs)) S
      | none => False)
    | none => False
  | _ => False
def rInts3 (C : List Int → Prop) (g : List Int → PyData) : C3 := fun ds S Q => match ds with
  | [d] => match lst3 S d with
    | some es => (match allP int? es with
      | some ns => C ns ∧ Q (.p (g ns)) S
      | none => False)
    | none => False
  | _ => False
abbrev rAll3 : C3 := rBls3 fun bs => .bool (bs.all id)
abbrev rAny3 : C3 := rBls3 fun bs => .bool (bs.any id)
def maxI : List Int → Int
  | [] => 0
  | x :: xs => xs.foldl (fun a b => if b > a then b else a) x
def minI : List Int → Int
  | [] => 0
  | x :: xs => xs.foldl (fun a b => if b < a then b else a) x
theorem maxI_go : ∀ (xs : List Int) (x : Int), x ≤ xs.foldl (fun a b => if b > a then b else a) x ∧ (∀ y ∈ xs, y ≤ xs.foldl (fun a b => if b > a then b else a) x) ∧ (xs.foldl (fun a b => if b > a then b else a) x = x ∨ xs.foldl (fun a b => if b > a then b else a) x ∈ xs)
  | [], x => ⟨Int.le_refl _, (fun y h => nomatch h), .inl rfl⟩
  | z :: xs, x => by
    rw [List.foldl_cons]
    obtain ⟨h1, h2, h3⟩ := maxI_go xs (if z > x then z else x)
    refine ⟨?_, fun y hy => ?_, ?_⟩
    · split at h1 <;> rename_i hc <;> simp only [hc, if_true, if_false] <;> omega
    · rcases List.mem_cons.mp hy with rfl | hy
      · split at h1 <;> rename_i hc <;> simp only [hc, if_true, if_false] <;> omega
      · exact h2 y hy
    · rcases h3 with h3 | h3
      · rw [h3]
        split
        · exact .inr List.mem_cons_self
        · exact .inl rfl
      · exact .inr (List.mem_cons_of_mem _ h3)
theorem minI_go : ∀ (xs : List Int) (x : Int), xs.foldl (fun a b => if b < a then b else a) x ≤ x ∧ (∀ y ∈ xs, xs.foldl (fun a b => if b < a then b else a) x ≤ y) ∧ (xs.foldl (fun a b => if b < a then b else a) x = x ∨ xs.foldl (fun a b => if b < a then b else a) x ∈ xs)
  | [], x => ⟨Int.le_refl _, (fun y h => nomatch h), .inl rfl⟩
  | z :: xs, x => by
    rw [List.foldl_cons]
    obtain ⟨h1, h2, h3⟩ := minI_go xs (if z < x then z else x)
    refine ⟨?_, fun y hy => ?_, ?_⟩
    · split at h1 <;> rename_i hc <;> simp only [hc, if_true, if_false] <;> omega
    · rcases List.mem_cons.mp hy with rfl | hy
      · split at h1 <;> rename_i hc <;> simp only [hc, if_true, if_false] <;> omega
      · exact h2 y hy
    · rcases h3 with h3 | h3
      · rw [h3]
        split
        · exact .inr List.mem_cons_self
        · exact .inl rfl
      · exact .inr (List.mem_cons_of_mem _ h3)
theorem maxI_of {ns : List Int} {m : Int} (hm : m ∈ ns) (h : ∀ y ∈ ns, y ≤ m) : maxI ns = m := by
  cases ns with
  | nil => cases hm
  | cons x xs =>
    obtain ⟨h1, h2, h3⟩ := maxI_go xs x
    show xs.foldl _ x = m
    have a : m ≤ xs.foldl (fun a b => if b > a then b else a) x := by
      rcases List.mem_cons.mp hm with rfl | hm
      · exact h1
      · exact h2 m hm
    have b : xs.foldl (fun a b => if b > a then b else a) x ≤ m := by
      rcases h3 with h3 | h3
      · rw [h3]; exact h x List.mem_cons_self
      · exact h _ (List.mem_cons_of_mem _ h3)
    omega
theorem minI_of {ns : List Int} {m : Int} (hm : m ∈ ns) (h : ∀ y ∈ ns, m ≤ y) : minI ns = m := by
  cases ns with
  | nil => cases hm
  | cons x xs =>
    obtain ⟨h1, h2, h3⟩ := minI_go xs x
    show xs.foldl _ x = m
    have a : xs.foldl (fun a b => if b < a then b else a) x ≤ m := by
      rcases List.mem_cons.mp hm with rfl | hm
      · exact h1
      · exact h2 m hm
    have b : m ≤ xs.foldl (fun a b => if b < a then b else a) x := by
      rcases h3 with h3 | h3
      · rw [h3]; exact h x List.mem_cons_self
      · exact h _ (List.mem_cons_of_mem _ h3)
    omega
abbrev rSum3 : C3 := rInts3 (fun _ => True) fun ns => .int ns.sum
abbrev rMaxL3 : C3 := rInts3 (fun ns => ns ≠ []) fun ns => .int (maxI ns)
abbrev rMinL3 : C3 := rInts3 (fun ns => ns ≠ []) fun ns => .int (minI ns)
section
variable {X : Cx}
theorem bls_inv {K : PySem.W.Frag} {w : W3} {H : Hp} {S : S3} {xs : List V} {ds : List D} {g : List Bool → PyData} {Q : K3} (r : Rel3 K w H S) (p0 : RepDs K w xs ds) (t : rBls3 g ds S Q) : ∃ a bs, xs = [.ref a] ∧ SqL K H a (bs.map V.bl) ∧ Q (.p (g bs)) S := by
  unfold rBls3 at t
  split at t
  · obtain ⟨v, rfl, p⟩ := rds1 p0
    split at t
    · rename_i es h1
      split at t
      · rename_i bs h2
        obtain ⟨a, ys, rfl, hq, ha, _⟩ := lst3_low r p h1
        rw [allP_bl h2] at ha
        rw [dp_bls ha] at hq
        exact ⟨a, bs, rfl, hq, t⟩
      · exact t.elim
    · exact t.elim
  · exact t.elim
theorem ints_inv {K : PySem.W.Frag} {w : W3} {H : Hp} {S : S3} {xs : List V} {ds : List D} {C : List Int → Prop} {g : List Int → PyData} {Q : K3} (r : Rel3 K w H S) (p0 : RepDs K w xs ds) (t : rInts3 C g ds S Q) : ∃ a ns, xs = [.ref a] ∧ SqL K H a (ns.map V.int) ∧ C ns ∧ Q (.p (g ns)) S := by
  unfold rInts3 at t
  split at t
  · obtain ⟨v, rfl, p⟩ := rds1 p0
    split at t
    · rename_i es h1
      split at t
      · rename_i bs h2
        obtain ⟨a, ys, rfl, hq, ha, _⟩ := lst3_low r p h1
        rw [allP_int h2] at ha
        rw [dp_ints ha] at hq
        exact ⟨a, bs, rfl, hq, t⟩
      · exact t.elim
    · exact t.elim
  · exact t.elim
theorem cq_all (hc : X.calm = true) : CQ X (.builtin "all") rAll3 := callq (cr_all hc) fun w S ds xs H Q R r0 p1 t q =>
  let ⟨a, bs, e, hq, t⟩ := bls_inv r0 p1 t
  ⟨a, bs, e, hq, q.bl r0 t⟩
theorem cq_any (hc : X.calm = true) : CQ X (.builtin "any") rAny3 := callq (cr_any hc) fun w S ds xs H Q R r0 p1 t q =>
  let ⟨a, bs, e, hq, t⟩ := bls_inv r0 p1 t
  ⟨a, bs, e, hq, q.bl r0 t⟩
theorem cq_sum (hc : X.calm = true) : CQ X (.builtin "sum") rSum3 := callq (cr_sum hc) fun w S ds xs H Q R r0 p1 t q =>
  let ⟨a, ns, e, hq, _, t⟩ := ints_inv r0 p1 t
  ⟨a, ns, e, hq, q.int r0 t⟩
theorem cq_maxL (hc : X.calm = true) : CQ X (.builtin "max") rMaxL3 := callq (cr_max hc) fun w S ds xs H Q R r0 p1 t q =>
  let ⟨a, ns, e, hq, hn, t⟩ := ints_inv r0 p1 t
  ⟨a, ns, e, hq, List.length_pos_iff.mpr hn, fun m h1 h2 => q.int r0 (maxI_of h1 h2 ▸ t)⟩
theorem cq_minL (hc : X.calm = true) : CQ X (.builtin "min") rMinL3 := callq (cr_min hc) fun w S ds xs H Q R r0 p1 t q =>
  let ⟨a, ns, e, hq, hn, t⟩ := ints_inv r0 p1 t
  ⟨a, ns, e, hq, List.length_pos_iff.mpr hn, fun m h1 h2 => q.int r0 (minI_of h1 h2 ▸ t)⟩
def rAbs3 : C3 := fun ds S Q => match ds with
  | [.p (.int i)] => Q (.p (.int (if i < 0 then -i else i))) S
  | _ => False
theorem cq_abs : CQ X (.builtin "abs") rAbs3 := callq call_abs fun w S ds xs H Q R r0 p1 t q => by
  unfold rAbs3 at t
  split at t
  · obtain ⟨v, rfl, p⟩ := rds1 p1
    have := dp_int p
    subst this
    exact ⟨_, rfl, q.int r0 t⟩
  · exact t.elim
end
end L3

namespace L3
open PySem PySem.Spec PyProof.Rows L2 RZ RT
/-! ### zip, enumerate, reversed -/
theorem zip3_get {xs ys : List PyData} {i : Nat} {x : PyData} (h : (zip3 xs ys)[i]? = some x) : ∃ a b, xs[i]? = some a ∧ ys[i]? = some b ∧ x = .tuple [a, b] := by
  unfold zip3 at h
  rw [List.getElem?_map] at h
  cases q : (xs.zip ys)[i]? with
  | none => rw [q] at h; cases h
  | some p =>
    rw [q] at h
    cases h
    rw [List.getElem?_zip_eq_some] at q
    exact ⟨p.1, p.2, q.1, q.2, rfl⟩
theorem zip3_len (xs ys : List PyData) : (zip3 xs ys).length = min xs.length ys.length := by
  unfold zip3
  rw [List.length_map, List.length_zip]
section
variable {K : PySem.W.Frag} {w : W3}
theorem pair_in {w' : W3} {H : Hp} {S : S3} {T : Addr} {v u : V} {x y : PyData} (r : Rel3 K w' H S) (hn : H T = none) (h1 : Dp K w'.h v x) (h2 : Dp K w'.h u y) :
    ∃ w'', Ex3 w' w'' ∧ Rel3 K w'' (upd H T (.tup [v, u])) S ∧ Dp K w''.h (.ref T) (.tuple [x, y]) := by
  obtain ⟨r2, e2⟩ := r.frz (u := .tup [v, u]) hn (by show (2 : Nat) ≤ _; rw [sizeLine_eq]; omega)
  exact ⟨_, e2, r2, Dp.tup (.inl (.inl upd_same)) (dpAll_mono e2.h [x, y] [v, u] (.cons h1 (.cons h2 .nil)))⟩
theorem itr_zipT {a b : Addr} {ds es : List PyData} (h : Dp K w.h (.ref a) (.tuple ds)) (h' : Dp K w.h (.ref b) (.tuple es)) : ItR K w (ItzT K a b) (zip3 ds es) fun _ => True := fun w' H S e r _ => by
  obtain ⟨a', xs, ea, hqa, ha⟩ := dp_tup_ref (dp_mono e.h _ _ h)
  obtain ⟨b', ys, eb, hqb, hb⟩ := dp_tup_ref (dp_mono e.h _ _ h')
  cases ea
  cases eb
  have hqa' := Same.sqT r.sub hqa
  have hqb' := Same.sqT r.sub hqb
  have la := DpAll.length ha
  have lb := DpAll.length hb
  refine ⟨fun i hi => ⟨xs, ys, hqa', hqb', by rw [zip3_len] at hi; omega⟩, fun i x hx => ?_⟩
  obtain ⟨x1, x2, g1, g2, rfl⟩ := zip3_get hx
  obtain ⟨v1, k1, k2⟩ := DpAll.get ha g1
  obtain ⟨v2, k3, k4⟩ := DpAll.get hb g2
  refine ⟨⟨xs, ys, v1, v2, hqa', hqb', k1, k3⟩, fun v H' y => ?_⟩
  obtain ⟨T, y1, y2, rfl, hn, rfl, z1, z2⟩ := y
  have := (z1 _ hqa').symm.trans k1
  cases this
  have := (z2 _ hqb').symm.trans k3
  cases this
  exact pair_in r hn k2 k4
theorem itr_zipL {a b : Addr} {d1 d2 : D} {ds es : List PyData} (h : RepD K w (.ref a) d1) (h' : RepD K w (.ref b) d2) : ItR K w (Itz K a b) (zip3 ds es) fun S => lst3 S d1 = some ds ∧ lst3 S d2 = some es := fun w' H S e r ok => by
  obtain ⟨a', xs, ea, hqa', ha, _⟩ := lst3_low r (h.mono0 e) ok.1
  obtain ⟨b', ys, eb, hqb', hb, _⟩ := lst3_low r (h'.mono0 e) ok.2
  cases ea
  cases eb
  have la := DpAll.length ha
  have lb := DpAll.length hb
  refine ⟨fun i hi => ⟨xs, ys, hqa', hqb', by rw [zip3_len] at hi; omega⟩, fun i x hx => ?_⟩
  obtain ⟨x1, x2, g1, g2, rfl⟩ := zip3_get hx
  obtain ⟨v1, k1, k2⟩ := DpAll.get ha g1
  obtain ⟨v2, k3, k4⟩ := DpAll.get hb g2
  refine ⟨⟨xs, ys, v1, v2, hqa', hqb', k1, k3⟩, fun v H' y => ?_⟩
  obtain ⟨T, y1, y2, rfl, hn, rfl, z1, z2⟩ := y
  have := (z1 _ hqa').symm.trans k1
  cases this
  have := (z2 _ hqb').symm.trans k3
  cases this
  exact pair_in r hn k2 k4
theorem enum3_get {xs : List PyData} {i : Nat} {x : PyData} (h : (enum3 xs)[i]? = some x) : ∃ a, xs[i]? = some a ∧ x = .tuple [.int (i : Nat), a] := by
  unfold enum3 at h
  rw [List.getElem?_map] at h
  rw [List.getElem?_zipIdx] at h
  cases q : xs[i]? with
  | none => rw [q] at h; simp at h
  | some a =>
    rw [q] at h
    simp at h
    exact ⟨a, rfl, h.symm⟩
theorem enum3_len (xs : List PyData) : (enum3 xs).length = xs.length := by
  unfold enum3
  rw [List.length_map, List.length_zipIdx]
theorem itr_enum {a : Addr} {d1 : D} {ds : List PyData} (h : RepD K w (.ref a) d1) : ItR K w (Ite K a) (enum3 ds) fun S => lst3 S d1 = some ds := fun w' H S e r ok => by
  obtain ⟨a', xs, ea, hqa', ha, _⟩ := lst3_low r (h.mono0 e) ok
  cases ea
  have la := DpAll.length ha
  refine ⟨fun i hi => ⟨xs, hqa', by rw [enum3_len] at hi; omega⟩, fun i x hx => ?_⟩
  obtain ⟨x1, g1, rfl⟩ := enum3_get hx
  obtain ⟨v1, k1, k2⟩ := DpAll.get ha g1
  refine ⟨⟨xs, v1, hqa', k1⟩, fun v H' y => ?_⟩
  obtain ⟨T, y1, rfl, hn, rfl, z1⟩ := y
  have := (z1 _ hqa').symm.trans k1
  cases this
  exact pair_in r hn (.int _) k2
theorem rev_get {α : Type} {xs : List α} {i : Nat} {x : α} (h : xs.reverse[i]? = some x) : i < xs.length ∧ xs[xs.length - 1 - i]? = some x := by
  have hi : i < xs.length := by
    have := (List.getElem?_eq_some_iff.mp h).1
    simpa using this
  rw [List.getElem?_reverse hi] at h
  exact ⟨hi, h⟩
theorem itr_revL {a : Addr} {d1 : D} {ds : List PyData} (h : RepD K w (.ref a) d1) : ItR K w (Itv K a ds.length) ds.reverse fun S => lst3 S d1 = some ds := fun w' H S e r ok => by
  obtain ⟨a', xs, ea, hqa', ha, _⟩ := lst3_low r (h.mono0 e) ok
  cases ea
  have la := DpAll.length ha
  refine ⟨fun i hi => by rw [List.length_reverse] at hi; exact hi, fun i x hx => ?_⟩
  obtain ⟨g0, g1⟩ := rev_get hx
  obtain ⟨v1, k1, k2⟩ := DpAll.get ha g1
  refine ⟨⟨g0, xs, v1, hqa', k1⟩, fun v H' y => ?_⟩
  obtain ⟨rfl, z1⟩ := y
  have := (z1 _ hqa').symm.trans k1
  cases this
  exact ⟨w', Ex3.refl _, r, k2⟩
theorem itr_revT {a : Addr} {ds : List PyData} (h : Dp K w.h (.ref a) (.tuple ds)) : ItR K w (ItvT K a ds.length) ds.reverse fun _ => True := fun w' H S e r _ => by
  obtain ⟨a', xs, ea, hqa, ha⟩ := dp_tup_ref (dp_mono e.h _ _ h)
  cases ea
  have hqa' := Same.sqT r.sub hqa
  have la := DpAll.length ha
  refine ⟨fun i hi => by rw [List.length_reverse] at hi; exact hi, fun i x hx => ?_⟩
  obtain ⟨g0, g1⟩ := rev_get hx
  obtain ⟨v1, k1, k2⟩ := DpAll.get ha g1
  refine ⟨⟨g0, xs, v1, hqa', k1⟩, fun v H' y => ?_⟩
  obtain ⟨rfl, z1⟩ := y
  have := (z1 _ hqa').symm.trans k1
  cases this
  exact ⟨w', Ex3.refl _, r, k2⟩
end
def tZipI3 (ta : TA3) : TI3 := fun env S Q => ta env S fun ds S1 => match ds with
  | [.p (.tuple xs), .p (.tuple ys)] => Q (zip3 xs ys) (fun _ => True) S1
  | [x, y] => (match lst3 S1 x, lst3 S1 y with
    | some xs, some ys => Q (zip3 xs ys) (fun S => lst3 S x = some xs ∧ lst3 S y = some ys) S1
    | _, _ => False)
  | _ => False
def tEnumerateI3 (ta : TA3) : TI3 := fun env S Q => ta env S fun ds S1 => match ds with
  | [x] => (match lst3 S1 x with
    | some xs => Q (enum3 xs) (fun S => lst3 S x = some xs) S1
    | _ => False)
  | _ => False
def tReversedI3 (te : TE3) : TI3 := fun env S Q => te env S fun x S1 => match x with
  | .p (.tuple xs) => Q xs.reverse (fun _ => True) S1
  | x => (match lst3 S1 x with
    | some xs => Q xs.reverse (fun S => lst3 S x = some xs) S1
    | _ => False)
section
variable {X : Cx} {e e2 : Expr} {te : TE3} {ta : TA3} {p pos tpos : Pos} {elts : List Expr} {kk : Nat} {tg : Expr}
theorem qi_zip (hc : X.calm = true) (hg : Gl X "zip") (hm : X.mg "zip" = none) (ha : QA X [e, e2] ta)
    (hs : starEach [e, e2] X.env = (false, eval e X.env) :: starEach [e2] X.env := by rfl) (hpl : (backTo pos (starEach [e2] X.env)).any (·.1) = false := by rfl) :
    QI X (.Tuple elts kk tpos) (.Call (.Name "zip" p) [e, e2] [] pos) (tZipI3 ta) := (pi_zipA hg hm ha hs hpl).imp fun σ H R ⟨w, env, S, Q, r0, en, t, q⟩ => by
  refine ⟨w, env, S, _, r0, en, t, fun w1 vs ds H1 S1 e1 r1 p1 t1 => ?_⟩
  split at t1
  · obtain ⟨v, u, rfl, p2, p3⟩ := rds2 p1
    obtain ⟨a, xs, rfl, hqa, ha⟩ := dp_tup_ref p2
    obtain ⟨b, ys, rfl, hqb, hb⟩ := dp_tup_ref p3
    have l1 := len_tup r1 p2
    exact ⟨a, b, xs, ys, rfl, .inr ⟨Same.sqT r1.sub hqa, Same.sqT r1.sub hqb, q w1 _ H1 S1 _ _ e1 r1 (itr_zipT p2 p3) (by rw [zip3_len]; omega) t1⟩⟩
  · obtain ⟨v, u, rfl, p2, p3⟩ := rds2 p1
    split at t1
    · rename_i xs' ys' h1 h2
      obtain ⟨a, xs, rfl, hqa, ha, hla⟩ := lst3_low r1 p2 h1
      obtain ⟨b, ys, rfl, hqb, hb, hlb⟩ := lst3_low r1 p3 h2
      exact ⟨a, b, xs, ys, rfl, .inl ⟨hqa, hqb, q w1 _ H1 S1 _ _ e1 r1 (itr_zipL p2 p3) (by rw [zip3_len]; omega) t1⟩⟩
    · exact t1.elim
  · exact t1.elim
theorem qi_enumerate (hc : X.calm = true) (hg : Gl X "enumerate") (hm : X.mg "enumerate" = none) (ha : QA X [e] ta) (hs : starEach [e] X.env = [(false, eval e X.env)] := by rfl) :
    QI X (.Tuple elts kk tpos) (.Call (.Name "enumerate" p) [e] [] pos) (tEnumerateI3 ta) := (pi_enum hg hm ha hs).imp fun σ H R ⟨w, env, S, Q, r0, en, t, q⟩ => by
  refine ⟨w, env, S, _, r0, en, t, fun w1 vs ds H1 S1 e1 r1 p1 t1 => ?_⟩
  split at t1
  · obtain ⟨v, rfl, p2⟩ := rds1 p1
    split at t1
    · rename_i xs' h1
      obtain ⟨a, xs, rfl, hqa, ha, hla⟩ := lst3_low r1 p2 h1
      exact ⟨a, xs, rfl, hqa, q w1 _ H1 S1 _ _ e1 r1 (itr_enum p2) (by rw [enum3_len]; exact hla) t1⟩
    · exact t1.elim
  · exact t1.elim
theorem qi_reversed (hc : X.calm = true) (hg : Gl X "reversed") (hm : X.mg "reversed" = none) (he : QE X e te) (hs : starEach [e] X.env = (false, eval e X.env) :: starEach [] X.env := by rfl) :
    QI X tg (.Call (.Name "reversed" p) [e] [] pos) (tReversedI3 te) := (pi_revA hg hm he hs).imp fun σ H R ⟨w, env, S, Q, r0, en, t, q⟩ => by
  refine ⟨w, env, S, _, r0, en, t, fun w1 v d H1 S1 e1 r1 p1 t1 => ?_⟩
  split at t1
  · obtain ⟨a, xs, rfl, hqa, ha⟩ := dp_tup_ref p1
    have hl := DpAll.length ha
    refine ⟨a, xs, rfl, .inr ⟨Same.sqT r1.sub hqa, ?_⟩⟩
    rw [hl]
    exact q w1 _ H1 S1 _ _ e1 r1 (itr_revT p1) (by rw [List.length_reverse]; exact len_tup r1 p1) t1
  · split at t1
    · rename_i xs' h1
      obtain ⟨a, xs, rfl, hqa, ha, hla⟩ := lst3_low r1 p1 h1
      have hl := DpAll.length ha
      refine ⟨a, xs, rfl, .inl ⟨hqa, ?_⟩⟩
      rw [hl]
      exact q w1 _ H1 S1 _ _ e1 r1 (itr_revL p1) (by rw [List.length_reverse]; exact hla) t1
    · exact t1.elim
/-! ### tuple(reversed(xs)), list(x) -/
def tTupRev3 (te : TE3) : TE3 := fun env S Q => te env S fun x S1 => match lst3 S1 x with
  | some ds => Q (.p (.tuple ds.reverse)) S1
  | none => False
theorem qe_tupRev {p2 pos2 : Pos} (hc : X.calm = true) (hg : Gl X "tuple") (hm : X.mg "tuple" = none) (hg2 : Gl X "reversed") (hm2 : X.mg "reversed" = none) (he : QE X e te)
    (hs : starEach [e] X.env = (false, eval e X.env) :: starEach [] X.env := by rfl)
    (hs2 : starEach [.Call (.Name "reversed" p2) [e] [] pos2] X.env = (false, eval (.Call (.Name "reversed" p2) [e] [] pos2) X.env) :: starEach [] X.env := by rfl) :
    QE X (.Call (.Name "tuple" p) [.Call (.Name "reversed" p2) [e] [] pos2] [] pos) (tTupRev3 te) := (pe_tupRev hc hg hm hg2 hm2 he hs hs2).imp fun σ H R ⟨w, env, S, Q, r0, en, t, q⟩ => by
  refine ⟨w, env, S, _, r0, en, t, fun w1 v d H1 S1 e1 r1 p1 t1 => ?_⟩
  split at t1
  · rename_i ds h1
    obtain ⟨a, xs, rfl, hq, ha, hz⟩ := lst3_low r1 p1 h1
    exact ⟨a, xs, rfl, hq, (q.mono e1).tup r1 (DpAll.reverse ha) (by rw [List.length_reverse]; exact hz) t1⟩
  · exact t1.elim
def tLstOf3 (ta : TA3) : TN3 := fun env S Q => ta env S fun ds S1 => match ds with
  | [d] => (match seq3 S1 d with
    | some es => Q es S1
    | none => False)
  | _ => False
theorem qn_listOf (hg : Gl X "list") (hm : X.mg "list" = none) (ha : QA X [e] ta) (he : starEach [e] X.env = (false, eval e X.env) :: starEach [] X.env := by rfl) (hpl : (backTo pos (starEach [] X.env)).any (·.1) = false := by rfl) :
    QN X (.Call (.Name "list" p) [e] [] pos) (tLstOf3 ta) := L2.PE.imp (pe_callTy call_list_of hg hm (by decide +kernel) ha (by decide) (by decide) he hpl) fun σ H R ⟨w, env, S, Q, r0, en, t, q⟩ => by
  refine ⟨w, env, S, _, r0, en, t, fun w1 vs ds H1 S1 e1 r1 p1 t1 => ?_⟩
  split at t1
  · obtain ⟨v, rfl, p2⟩ := rds1 p1
    split at t1
    · rename_i es h1
      obtain ⟨a, xs, rfl, hq, ha, hz⟩ := seq3_low r1 p2 h1
      exact ⟨a, xs, rfl, hq, fun l hn => q w1 l xs _ H1 S1 e1 r1 hn ha hz t1⟩
    · exact t1.elim
  · exact t1.elim
end
/-! ### repr of data: in a stack that shows nothing yet -/
def ReprOk (d : PyData) : Prop := d.showable = true ∧ d.shown.length ≤ 16777216 ∧ d.depth ≤ 60 ∧ d.hasDict = false
def rReprD3 : C3 := fun ds S Q => match ds with
  | [.p d] => ReprOk d ∧ Q (.p (.str d.shown)) S
  | _ => False
section
variable {X : Cx}
def rShow (K : PySem.W.Frag) : List V → Hp → VK → Prop := fun xs H Q => ∃ (v : V) (d : PyData), xs = [v] ∧ Dp K H v d ∧ ReprOk d ∧ Q (.str d.shown) H
theorem call_reprD (hg : X.A.guards = some []) (hu : X.A.units + 64 < cLine) : CallR X (.builtin "repr") (rShow X.K) := by
  intro pins s σ H xs us Q I r h
  obtain ⟨v, d, rfl, hd, ⟨h1, h2, h3, h4⟩, q⟩ := h
  have hz : sizeLine = 16777216 := sizeLine_eq
  obtain ⟨u, rfl, r1⟩ := vals1 r
  obtain ⟨as, rd⟩ := Dp.reads I d v u hd r1
  have nod : d.hasDict = true → sysModules ∉ as := PyData.noDict_hsm h4
  cases d with
  | none =>
    cases hd
    cases r1
    simp only [PyData.shown] at q
    exact PySem.P.repr_of_none ⟨.str _, H, I.tok _, ⟨_, rfl⟩, q⟩
  | bool b =>
    cases hd
    cases r1
    simp only [PyData.shown] at q
    exact PySem.P.repr_of_bool ⟨.str _, H, I.tok _, ⟨_, rfl⟩, q⟩
  | int i =>
    cases hd
    obtain ⟨t, rfl⟩ := r1
    simp only [PyData.shown] at q
    have h1' : i.natAbs.log2 < 1920 := by
      simp only [PyData.showable] at h1
      exact of_decide_eq_true h1
    exact PySem.P.repr_of_int h1' ⟨.str _, H, I.tok _, ⟨_, rfl⟩, q⟩
  | str x =>
    cases hd
    obtain ⟨t, rfl⟩ := r1
    simp only [PyData.shown] at q h2
    exact PySem.P.repr_of_str ⟨.str _, H, I.tok _, ⟨_, rfl⟩, q⟩ (by omega)
  | list ds =>
    cases hd with
    | lst hs ha =>
      cases r1
      refine repr_of_reads' rd h1 nod hg (by omega) (fun b o e => e) (fun h' u tk hk => ?_) (by omega)
      exact ⟨.str _, H, I.kept (t' := tk) hk, ⟨_, rfl⟩, q⟩
  | tuple ds =>
    cases hd with
    | tup hs ha =>
      cases r1
      refine repr_of_reads' rd h1 nod hg (by omega) (fun b o e => e) (fun h' u tk hk => ?_) (by omega)
      exact ⟨.str _, H, I.kept (t' := tk) hk, ⟨_, rfl⟩, q⟩
  | dict kvs => simp [PyData.hasDict] at h4
theorem cq_reprD (hg : X.A.guards = some []) (hu : X.A.units + 64 < cLine) : CQ X (.builtin "repr") rReprD3 := callq (call_reprD hg hu) fun w S ds xs H Q R r0 p1 t q => by
  unfold rReprD3 at t
  split at t
  · obtain ⟨v, rfl, p⟩ := rds1 p1
    exact ⟨v, _, rfl, dp_mono r0.sub _ _ p, t.1, q.str r0 t.2⟩
  · exact t.elim
end
/-! ### defs whose promise holds in a stack that shows nothing -/
structure FnG (P : Program) (w : World) (K : PySem.W.Frag) (mg : Str → Option Value) (base : Heap) (k : Nat) (f : Addr) (fd : FuncData) (ps : List Str) (sp : L2.Sp) : Prop where
  len : ∀ vs H Q E, sp vs H Q E → vs.length = ps.length
  run : ∀ (A : Around) (outer : List Env) (s : Shared) (H : Hp) (args : Args) (us : List Value) (vs : List V) (Q : VK) (E : XK), A.guards = some [] → Room k A → Env0 P w K mg base A outer s H → BindsTo s fd args (ps.zip us) → Vals vs us → sp vs H Q E →
    codeAny (model P w) A (.call (.ref f) args) (CR CX0 outer P w H s Q E) s
section
variable {P : Program} {w : World} {K : PySem.W.Frag} {mg : Str → Option Value} {base : Heap}
theorem fnG_of {x qual : Str} {st : Stmt} {f : Addr} {fd : FuncData} {N ps : List Str} {k : Nat} {sp : L2.Sp} (F : Fun K x qual st f fd) (S : FnScope N ps (defScope st)) (len : ∀ vs H Q E, sp vs H Q E → vs.length = ps.length)
    (hbody : ∀ (cdv : Value) (A : Around) (outer : List Env) (s : Shared) (H : Hp) (vs : List V) (Q : VK) (E : XK), A.guards = some [] → Room k (A.deeper (envOfC qual (defScope st) s.heap.objs.size f cdv)) → sp vs H Q E →
      ∃ t, PSs (cxOf CX0 P w K mg base N qual (defScope st) f cdv A outer s H E).nox (defBody st) t ∧ t { nx := fun _ H' => Q .non H', rt := Q } (L2.start N vs) H) : FnG P w K mg base (k + 1) f fd ps sp := by
  obtain ⟨oc, od, kV, doc, pm, an, cdv, ct, osl, rfl, lk, hcd⟩ := F.ex
  refine ⟨len, fun A outer s H args us vs Q E hgd hr e0 hb r hsp => ?_⟩
  have old : ∀ b o, base.get? b = some o → s.heap.get? b = some o := fun b o e => (e0.bs b o e).1
  have KX : K.In s.heap := e0.mod.kin.keeps old
  have hkind : ∀ y ∈ ps.zip us, (defScope st).names.lookup y.1 = some .local ∨ ((defScope st).names.lookup y.1 = some .cell ∧ ((cellsFrom (s.heap.objs.size + 1) (defScope st).names []).lookup y.1).isSome = true) := fun y hy =>
    (S.par y.1 (List.of_mem_zip (a := y.1) (b := y.2) hy).1).imp id fun q => ⟨q, PySem.W.cellsFrom_some _ _ _ (.inl q)⟩
  refine codeAny_call_function hr.depth (KX _ _ lk) rfl S.co S.gen rfl (PySem.W.codeRec_of KX hcd) (hb _ _ _ _ (wpAny_newFunctionEnv_cells S.kind hkind fun env he s1 x => ?_))
  subst he
  refine ⟨(e0.mod.nolimit.keeps old).keeps x.toInCall.keep, codeAny_func ?_⟩
  obtain ⟨t, ht, hq⟩ := hbody cdv A outer s H vs Q E hgd (hr.deeper _) hsp
  refine wpAny_mono (ht.nox.run [] s1 (L2.start N vs) H _ (inv_start S hr.hd e0 (len _ _ _ _ hsp) r x) hq) (fun fl s' hs => ?_) fun e s' hs => hs
  cases fl with
  | ret u =>
    obtain ⟨v, σ', H', J, rv, q⟩ := hs
    exact ⟨v, H', J.os, J.bare, J.base, J.hok, rv, q⟩
  | next =>
    obtain ⟨σ', H', J, q⟩ := hs
    exact ⟨.non, H', J.os, J.bare, J.base, J.hok, rfl, q⟩
  | brk =>
    obtain ⟨_, _, _, q⟩ := hs
    exact False.elim q
  | cont =>
    obtain ⟨_, _, _, q⟩ := hs
    exact False.elim q
end
structure Ok3G (P : Program) (w : World) (K : PySem.W.Frag) (mg : Str → Option Value) (base : Heap) (k : Nat) (x : Str) (sp : Sp3) : Prop where
  ex : ∃ f fd ps, mg x = some (.ref f) ∧ PySem.W.keepIn K (.ref f) = true ∧ Binds K fd ps [] ∧ FnG P w K mg base k f fd ps (fun vs H Q _ => lowC K sp vs H Q)
section
variable {P : Program} {w : World} {K : PySem.W.Frag} {mg : Str → Option Value} {base : Heap}
theorem Ok3G.fnG {x : Str} {st : Stmt} {f : Addr} {fd : FuncData} {N ps : List Str} {k : Nat} {sp : Sp3} {t3 : TS3} (F : Fun K x x st f fd) (b : Binds K fd ps []) (sc : FnScope N ps (defScope st))
    (hlen : ∀ ds S Q, sp ds S Q → ds.length = ps.length)
    (body : ∀ (cdv : Value) (A : Around) (outer : List Env) (s : Shared) (H : Hp) (E : XK), A.guards = some [] → Room k (A.deeper (envOfC x (defScope st) s.heap.objs.size f cdv)) → QSs (cxOf CX0 P w K mg base N x (defScope st) f cdv A outer s H E).nox (defBody st) t3)
    (read : ∀ ds S Q, sp ds S Q → t3 { nx := fun _ S' => Fin3 S Q (.p .none) S', rt := Fin3 S Q } (env0 N.length ds) S) : FnG P w K mg base (k + 1) f fd ps (fun vs H Q _ => lowC K sp vs H Q) := by
  refine fnG_of F sc (fun vs H Q E h => ?_) (fun cdv A outer s H vs Q E hgd hr h => ?_)
  · obtain ⟨w3, S, ds, Q3, r, rd, hs, q⟩ := h
    rw [RepDs.length rd]
    exact hlen ds S Q3 hs
  · obtain ⟨w3, S, ds, Q3, r, rd, hs, q⟩ := h
    refine ⟨_, body cdv A outer s H E hgd hr, ?_⟩
    have fin : ∀ (w4 : W3) (v : V) (d : D) (H' : Hp) (S' : S3), Ex3 w3 w4 → Rel3 K w4 H' S' → RepD K w4 v d → Fin3 S Q3 d S' → Q v H' := fun w4 v d H' S' e4 r4 p4 ⟨L, hL, hb, h4⟩ => by
      refine q ⟨w4.al.take L, w4.h, w4.pn⟩ v d H' (S'.take L) ⟨⟨?_, e4.h⟩, e4.pn⟩ (r4.shrink L) ?_ h4
      · obtain ⟨t, ht⟩ := e4.al
        refine ⟨t.take (L - w3.al.length), ?_⟩
        show w4.al.take L = _
        rw [ht, List.take_append, List.take_of_length_le (by rw [r.len]; exact hL)]
      · cases d with
        | p d => exact p4
        | exc c => exact p4
        | loc m =>
          obtain ⟨a, h5, h6⟩ := p4
          exact ⟨a, by show (w4.al.take L)[m]? = _; rw [List.getElem?_take_of_lt hb]; exact h5, h6⟩
    exact ⟨w3, _, S, _, r, env_start rd, read ds S Q3 hs, ⟨fun w4 σ' H' env' S' e4 r4 _ h4 => fin w4 .non (.p .none) H' S' e4 r4 rep_non h4, fun w4 v d H' S' e4 r4 p4 h4 => fin w4 v d H' S' e4 r4 p4 h4,
      fun _ _ _ _ _ _ _ _ h => h.elim, fun _ _ _ _ _ _ _ _ h => h.elim⟩⟩
theorem Ok3G.mk' {x : Str} {st : Stmt} {f : Addr} {fd : FuncData} {N ps : List Str} {k : Nat} {sp : Sp3} {t3 : TS3} (F : Fun K x x st f fd) (hm : mg x = some (.ref f)) (b : Binds K fd ps []) (sc : FnScope N ps (defScope st))
    (hlen : ∀ ds S Q, sp ds S Q → ds.length = ps.length)
    (body : ∀ (cdv : Value) (A : Around) (outer : List Env) (s : Shared) (H : Hp) (E : XK), A.guards = some [] → Room k (A.deeper (envOfC x (defScope st) s.heap.objs.size f cdv)) → QSs (cxOf CX0 P w K mg base N x (defScope st) f cdv A outer s H E).nox (defBody st) t3)
    (read : ∀ ds S Q, sp ds S Q → t3 { nx := fun _ S' => Fin3 S Q (.p .none) S', rt := Fin3 S Q } (env0 N.length ds) S) : Ok3G P w K mg base (k + 1) x sp :=
  ⟨f, fd, ps, hm, F.kp, b, Ok3G.fnG F b sc hlen body read⟩
end
section
variable {X : Cx} {e : Expr} {es : List Expr} {tr : TA3} {p pos : Pos} {x : Str} {k : Nat} {sp : Sp3}
theorem run_fnG {f : Addr} {fd : FuncData} {ps : List Str} {sp : L2.Sp} {E : XK} {pins : List (Addr × Obj)} {σ : L2.St} {H : Hp} {s : Shared} {Q : VK} {us : List Value} {vs : List V} (F : FnG X.prog X.w X.K X.mg X.base k f fd ps sp) (hg : X.A.guards = some []) (hr : Room k X.A) (hb : Binds X.K fd ps [])
    (I : L2.Inv X pins σ H s) (r : Vals vs us) (h : sp vs H Q E) : wpAny (model X.prog X.w) X.A (call (.ref f) us) (EP X pins σ Q) X.xe s := by
  have hl : us.length = ps.length := by rw [← r.length]; exact F.len _ _ _ _ h
  have b := hb s us I.kIn (by rw [List.append_nil]; exact hl)
  rw [List.append_nil] at b
  refine wpAny_call (codeAny_mono (F.run X.A X.stack s H ⟨us, []⟩ us vs Q E hg hr I.env0 b r h) fun r s' hq => ?_)
  cases r with
  | error e => exact hq.elim
  | ok fl =>
    cases fl with
    | ret u => exact I.after hq
    | next => exact False.elim hq
    | brk => exact False.elim hq
    | cont => exact False.elim hq
theorem qe_callG (F : Ok3G X.prog X.w X.K X.mg X.base k x sp) (hgd : X.A.guards = some []) (hr : Room k X.A) (hg : Gl X x) (ha : QA X (e :: es) tr) (hdb : (x == ("__debug__" : Str)) = false := by decide) (he : starEach (e :: es) X.env = (false, eval e X.env) :: starEach es X.env := by rfl) (hpl : (backTo pos (starEach es X.env)).any (·.1) = false := by rfl) :
    QE X (.Call (.Name x p) (e :: es) [] pos) (tCB3 sp tr) := by
  obtain ⟨f, fd, ps, hm, kp, b, ok⟩ := F.ex
  refine ⟨fun pins s σ H Q I h => ?_⟩
  refine wpAny_Call_Name_kw (ld_glob I hg hm ?_ hdb)
  refine PySem.W.callWith_K (h₀ := X.base) I.ok.mod.kin kp (thn (ha.run pos pins s σ H (fun vs H1 => lowC X.K sp vs H1 Q) I (lowCB h)) fun us s1 ⟨vs, H1, I1, r, q⟩ => ⟨I1.kIn, ?_⟩) he hpl
  exact run_fnG (E := fun _ _ _ => False) ok hgd hr b I1 r q
end
/-! ### the law's head, in a stack that shows nothing (callerA's) -/
theorem call_headG {P : Program} {w : World} {K : PySem.W.Frag} {mg mb : Str → Option Value} {k : Nat} {fa a : Addr} {fd : FuncData} {x : Str} {sp : L2.Sp} {s₁ : Shared} {vs : List Value} {ns : List Int}
    (KX : K.In s₁.heap) (hns : s₁.heap.Ns mainGlobals mg) (hb : s₁.heap.Ns builtinsNs mb) (hbb : ∀ x : Str, x ≠ "__name__" → mb x = bootBuiltins x) (hlim : s₁.heap.NoLimit) (hg : s₁.gens = #[])
    (ha : s₁.heap.get? a = some { cls := .type "list", data := .seq vs.toArray }) (hi : IntsAre vs ns) (hl : ns.length ≤ sizeLine) (hr : Room k callerA)
    (F : ∀ base : Heap, K.In base → base.Ns mainGlobals mg → FnG P w K mg base k fa fd [x] sp) (hbind : ∀ (s : Shared) (u : Value), BindsTo s fd ⟨[u], []⟩ [(x, u)])
    (hsp : ∀ H : Hp, Only H → SqL K H a (ns.map V.int) → sp [.ref a] H (fun v _ => v = .bl true) fun _ _ _ => False) :
    codeAny (model P w) callerA (.call (.ref fa) ⟨[.ref a], []⟩) (fun r s' => r = .ok (.ret (.bool true)) ∧ OldK s₁.heap s'.heap ∧ s'.os = s₁.os ∧ AllBare s'.gens) s₁ := by
  have rv := vals_ints hi
  have lenV := hi.length
  have go : ∀ H : Hp, Only H → SqL K H a (ns.map V.int) → HOk P w H s₁.heap → (∀ b, H b ≠ none → b = a) → (H a ≠ none → K.lookup a = none) →
      codeAny (model P w) callerA (.call (.ref fa) ⟨[.ref a], []⟩) (fun r s' => r = .ok (.ret (.bool true)) ∧ OldK s₁.heap s'.heap ∧ s'.os = s₁.os ∧ AllBare s'.gens) s₁ := fun H hO hS hok hA hK => by
    have free : ∀ {b : Addr}, (b = a → False) → H b = none := fun {b} n => by
      cases q : H b with
      | none => rfl
      | some u => exact (n (hA b (by rw [q]; simp))).elim
    have nsK : ∀ {b : Addr} {m : Str → Option Value}, s₁.heap.Ns b m → (hidT s₁.heap H).Ns b m := fun {b m} ⟨o, es, ep, e, d, r⟩ => ⟨o, es, ep, hidT_get e (free fun z => by
      subst z
      rw [ha] at e
      cases e
      cases (show Data.seq vs.toArray _ = Data.dict es ep from d)), d, r⟩
    have hKb : K.In (hidT s₁.heap H) := fun b o e => hidT_get (KX b o e) (by
      cases q : H b with
      | none => rfl
      | some u =>
        have z := hA b (by rw [q]; simp)
        subst z
        rw [hK (by rw [q]; simp)] at e
        cases e)
    have hM : Mod K mg (hidT s₁.heap H) := ⟨hKb, nsK hns, ⟨mb, nsK hb, hbb⟩, let ⟨mc, h1, h2⟩ := hlim; ⟨mc, nsK h1, h2⟩⟩
    have e0 : Env0 P w K mg (hidT s₁.heap H) callerA [] s₁ H := ⟨rfl, hM, fun b o e => of_hidT e, Nat.le_of_eq (hidT_size _ _), trivial, fun b hb => absurd (show b ∈ ([] : List Addr) from hb) (by simp), hok, .of_eq hg⟩
    refine codeAny_mono ((F _ hKb (nsK hns)).run callerA [] s₁ H ⟨[.ref a], []⟩ [.ref a] [.ref a] _ _ rfl hr e0 (hbind s₁ (.ref a)) (.cons rfl .nil) (hsp H hO hS)) fun r s' h => ?_
    cases r with
    | error e => exact h.elim
    | ok fl =>
      cases fl with
      | next => exact False.elim h
      | brk => exact False.elim h
      | cont => exact False.elim h
      | ret u =>
        obtain ⟨v, H', os, bare, un, hok', r', q⟩ := h
        subst q
        cases r'
        refine ⟨rfl, OldK.of_keep fun b o e => ?_, os, bare⟩
        cases q : H b with
        | none => exact un.keep b o e q (by intro z; exact absurd (show b ∈ ([] : List Addr) from z) (by simp)) (by simp)
        | some u =>
          rcases hO b with z | ⟨ob, xs, z⟩
          · rw [q] at z; cases z
          · obtain ⟨e1, _⟩ := hok b _ z
            obtain ⟨e2, _⟩ := hok' b _ (un.frzs b ob _ z)
            rw [e] at e1
            cases e1
            exact e2
  cases hk : K.lookup a with
  | some o =>
    have e := KX a o hk
    rw [ha] at e
    cases e
    exact go (fun _ => none) (fun _ => .inl rfl) (.inr ⟨_, vs.toArray, _, hk, rfl, rfl, rfl, by rw [List.size_toArray, lenV]; exact hl, by simpa using rv⟩) (fun b u z => nomatch z) (fun b z => absurd rfl z) fun z => absurd rfl z
  | none =>
    refine go (upd (fun _ => none) a (.frz { cls := .type "list", data := .seq vs.toArray } (.lst (ns.map V.int)))) (fun b => ?_) (.inl (.inr ⟨{ cls := .type "list", data := .seq vs.toArray }, upd_same⟩)) (fun b u z => ?_) (fun b z => ?_) fun _ => hk
    · by_cases hb : b = a
      · subst hb
        exact .inr ⟨_, _, upd_same⟩
      · exact .inl (upd_ne hb)
    · by_cases hb : b = a
      · subst hb
        rw [upd_same] at z
        cases z
        exact ⟨ha, by rw [List.length_map]; exact hl, vs, _, rv, ha⟩
      · rw [upd_ne hb] at z
        cases z
    · by_cases hb : b = a
      · exact hb
      · exact absurd (upd_ne hb) z
theorem walk_ofG {l : PySem.W.OpenLaw} {n k : Nat} {q : Program} {loose : List Str} {XP : (Str → Option Value) → Heap → Prop} {YP : World → Heap → Prop} {d : DefRec} {K : Params → PySem.W.Frag} {sp : World → L2.Sp} {x : Str}
    (hn : l.most = some n) (hn2 : n ≤ sizeLine) (hdf : d.params.defaults = []) (hr : Room k callerA)
    (hY : ∀ (w : World) (h : Heap), YP w h → (K w.params).In h)
    (F : ∀ (w : World) (mg : Str → Option Value) (fa : Addr) (h : Heap), (K w.params).In h → h.Ns mainGlobals mg → mg d.name = some (.ref fa) →
      ∃ fd : FuncData, (∀ (s : Shared) (u : Value), BindsTo s fd ⟨[u], []⟩ [(x, u)]) ∧
        ∀ base : Heap, (K w.params).In base → base.Ns mainGlobals mg → FnG l.prog w (K w.params) mg base k fa fd [x] (sp w))
    (hsp : ∀ (w : World) (H : Hp) (a : Addr) (ns : List Int), ns.length ≤ n → Only H → SqL (K w.params) H a (ns.map V.int) → sp w [.ref a] H (fun v _ => v = .bl true) fun _ _ _ => False) :
    PySem.W.WalkO q loose XP YP l.row.toRowW d [] (fun f vs => PySem.call f vs) := by
  refine Att.attach_call hn hdf fun w s₀ s₁ mg mb fa o pm cd doc a vs ns G Y ho hd hcd hmg hobj hints hlen hg => ?_
  obtain ⟨fd, hb, hF⟩ := F w mg fa _ (hY w _ Y) G.T.g hmg
  exact call_headG (hY w _ Y) G.T.g G.T.b G.T.builtins G.T.nolimit hg hobj hints (Nat.le_trans hlen hn2) hr hF hb fun H hO hS => hsp w H a ns hlen hO hS
end L3

namespace L3
open PySem PySem.Spec PyProof.Rows L2
/-! ### == with texts -/
def rEqS3 : R3 := fun x y S Q => match x, y with
  | .p (.str a), .p (.str b) => Q (.p (.bool (decide (a = b)))) S
  | .p d, .p e => (SeqAt.shaped d = true ∧ SeqAt.shaped e = true) ∧ Q (.p (.bool (PyData.eqv d e))) S
  | _, _ => False
def rNeS3 : R3 := fun x y S Q => match x, y with
  | .p (.str a), .p (.str b) => Q (.p (.bool (!decide (a = b)))) S
  | .p d, .p e => (SeqAt.shaped d = true ∧ SeqAt.shaped e = true) ∧ Q (.p (.bool (!PyData.eqv d e))) S
  | _, _ => False
theorem dec_str {a b : Str} : decide (V.str a = V.str b) = decide (a = b) := by
  rw [Bool.eq_iff_iff]
  simp
theorem oq_eqS {X : Cx} (hu : X.A.units + 64 < cLine) : OQ X (compareOp .Eq) rEqS3 := opq (op_eq.or (op_eqD hu)) fun w S d e x y H Q R r0 p1 p2 t q => by
  unfold rEqS3 at t
  split at t
  · have := dp_str p1
    subst this
    have := dp_str p2
    subst this
    refine .inl ⟨rfl, ?_⟩
    rw [dec_str]
    exact q.bl r0 t
  · exact .inr ⟨_, _, (dp_mono r0.sub _ _ p1).sh t.1.1, (dp_mono r0.sub _ _ p2).sh t.1.2, t.1.1, t.1.2, q.bl r0 t.2⟩
  · exact t.elim
theorem oq_neS {X : Cx} (hu : X.A.units + 64 < cLine) : OQ X (compareOp .NotEq) rNeS3 := opq (op_ne.or (op_neD hu)) fun w S d e x y H Q R r0 p1 p2 t q => by
  unfold rNeS3 at t
  split at t
  · have := dp_str p1
    subst this
    have := dp_str p2
    subst this
    refine .inl ⟨rfl, ?_⟩
    rw [dec_str]
    exact q.bl r0 t
  · exact .inr ⟨_, _, (dp_mono r0.sub _ _ p1).sh t.1.1, (dp_mono r0.sub _ _ p2).sh t.1.2, t.1.1, t.1.2, q.bl r0 t.2⟩
  · exact t.elim
/-! ### data that can be shown and told apart -/
structure Shows (d : PyData) (B k : Nat) : Prop where
  ok : d.showable = true
  len : d.shown.length ≤ B
  dep : d.depth ≤ k
  lay : d.canLay0 = true
theorem Shows.le {d : PyData} {B B' k k' : Nat} (h : Shows d B k) (hb : B ≤ B') (hk : k ≤ k') : Shows d B' k' := ⟨h.ok, Nat.le_trans h.len hb, Nat.le_trans h.dep hk, h.lay⟩
theorem Shows.repr {d : PyData} {B k : Nat} (h : Shows d B k) (hb : B ≤ 16777216) (hk : k ≤ 60) : ReprOk d := ⟨h.ok, Nat.le_trans h.len hb, Nat.le_trans h.dep hk, PyData.hasDict_of_canLay _ h.lay⟩
theorem Shows.shaped {d : PyData} {B k : Nat} (h : Shows d B k) (hk : k ≤ 64) : SeqAt.shaped d = true := by
  unfold SeqAt.shaped
  rw [h.lay, decide_eq_true (Nat.le_trans h.dep hk)]
  rfl
theorem Shows.int {i : Int} (h : i.natAbs < 10 ^ 12) : Shows (.int i) 13 0 := by
  refine ⟨?_, PyData.shown_int_le h, Nat.le_refl _, rfl⟩
  simp only [PyData.showable]
  refine decide_eq_true ?_
  have := PySem.Flt.log2_lt_of (show 0 < 64 by decide) (show i.natAbs < 2 ^ 64 by omega)
  omega
theorem shows_all {B k : Nat} : ∀ {ds : List PyData}, (∀ x ∈ ds, Shows x B k) → PyData.showableAll ds = true ∧ ((PyData.shownAll ds).map (·.length)).sum ≤ ds.length * B ∧ (PyData.shownAll ds).length = ds.length ∧ PyData.depthAll ds ≤ k ∧ PyData.canLayAll0 ds = true
  | [], _ => by simp [PyData.showableAll, PyData.shownAll, PyData.depthAll, PyData.canLayAll0]
  | d :: ds, h => by
    obtain ⟨h1, h2, h3, h4, h5⟩ := shows_all (ds := ds) fun x hx => h x (List.mem_cons_of_mem _ hx)
    have h0 := h d List.mem_cons_self
    refine ⟨?_, ?_, ?_, ?_, ?_⟩
    · simp only [PyData.showableAll, h0.ok, h1, Bool.and_self]
    · simp only [PyData.shownAll, List.map_cons, List.sum_cons, List.length_cons]
      have := h0.len
      rw [Nat.add_mul]
      omega
    · simp only [PyData.shownAll, List.length_cons, h3]
    · simp only [PyData.depthAll]
      exact Nat.max_le.mpr ⟨h0.dep, h4⟩
    · simp only [PyData.canLayAll0, h0.lay, h5, Bool.and_self]
theorem Shows.tup {ds : List PyData} {B k n : Nat} (h : ∀ x ∈ ds, Shows x B k) (hn : ds.length ≤ n) : Shows (.tuple ds) (n * (B + 2) + 3) (k + 1) := by
  obtain ⟨h1, h2, h3, h4, h5⟩ := shows_all h
  refine ⟨?_, ?_, ?_, ?_⟩
  · simp only [PyData.showable]; exact h1
  · simp only [PyData.shown]
    refine Nat.le_trans (tupleText_len_le _) ?_
    rw [h3]
    have : ds.length * B ≤ n * B := Nat.mul_le_mul_right _ hn
    have e : n * (B + 2) = n * B + n * 2 := Nat.mul_add ..
    omega
  · simp only [PyData.depth]; omega
  · simp only [PyData.canLay0]; exact h5
theorem Shows.lst {ds : List PyData} {B k n : Nat} (h : ∀ x ∈ ds, Shows x B k) (hn : ds.length ≤ n) : Shows (.list ds) (n * (B + 2) + 3) (k + 1) := by
  obtain ⟨h1, h2, h3, h4, h5⟩ := shows_all h
  refine ⟨?_, ?_, ?_, ?_⟩
  · simp only [PyData.showable]; exact h1
  · simp only [PyData.shown]
    refine Nat.le_trans (listText_len_le _) ?_
    rw [h3]
    have : ds.length * B ≤ n * B := Nat.mul_le_mul_right _ hn
    have e : n * (B + 2) = n * B + n * 2 := Nat.mul_add ..
    omega
  · simp only [PyData.depth]; omega
  · simp only [PyData.canLay0]; exact h5
/-- a tuple of ints -/
def tupI (ns : List Int) : PyData := .tuple (ns.map PyData.int)
theorem shows_tupI {ns : List Int} {n : Nat} (h : ∀ x ∈ ns, x.natAbs < 10 ^ 12) (hn : ns.length ≤ n) : Shows (tupI ns) (n * 15 + 3) 1 :=
  Shows.tup (B := 13) (k := 0) (fun x hx => by
    obtain ⟨i, hi, rfl⟩ := List.mem_map.mp hx
    exact Shows.int (h i hi)) (by rw [List.length_map]; exact hn)
mutual
theorem eqv_self : ∀ d : PyData, d.canLay0 = true → PyData.eqv d d = true
  | .none, _ => by simp only [PyData.eqv]
  | .bool b, _ => by simp [PyData.eqv]
  | .int i, _ => by simp [PyData.eqv]
  | .str x, _ => by simp [PyData.eqv]
  | .list ds, h => by simp only [PyData.eqv]; exact eqv_selfs ds (by simpa only [PyData.canLay0] using h)
  | .tuple ds, h => by simp only [PyData.eqv]; exact eqv_selfs ds (by simpa only [PyData.canLay0] using h)
  | .dict kvs, h => by simp [PyData.canLay0] at h
theorem eqv_selfs : ∀ ds : List PyData, PyData.canLayAll0 ds = true → PyData.eqvAll ds ds = true
  | [], _ => by simp only [PyData.eqvAll]
  | d :: ds, h => by
    simp only [PyData.canLayAll0, Bool.and_eq_true] at h
    simp only [PyData.eqvAll, eqv_self d h.1, eqv_selfs ds h.2, Bool.and_self]
end
theorem eqvAll_ints : ∀ a b : List Int, PyData.eqvAll (a.map PyData.int) (b.map PyData.int) = decide (a = b)
  | [], [] => by simp [PyData.eqvAll]
  | [], _ :: _ => by simp [PyData.eqvAll]
  | _ :: _, [] => by simp [PyData.eqvAll]
  | x :: a, y :: b => by
    simp only [List.map_cons, PyData.eqvAll, eqv_int, eqvAll_ints a b]
    rw [Bool.eq_iff_iff]
    simp
theorem eqv_tupI (a b : List Int) : PyData.eqv (tupI a) (tupI b) = decide (a = b) := by
  unfold tupI
  simp only [PyData.eqv]
  exact eqvAll_ints a b
/-! ### targets, for readings -/
theorem bind3_nm (i : Nat) (d : PyData) (env : E3) : bind3 (.nm i) d env = some (set3 env i (.p d)) := by unfold bind3; rfl
theorem bind3_tup (ts : Tgs) (ds : List PyData) (env : E3) : bind3 (.tup ts) (.tuple ds) env = binds3 ts ds env := by unfold bind3; rfl
theorem binds3_nil (env : E3) : binds3 .nil [] env = some env := by unfold binds3; rfl
theorem binds3_cons (t : Tg) (r : Tgs) (d : PyData) (ds : List PyData) (env : E3) : binds3 (.cons t r) (d :: ds) env = match bind3 t d env with
    | some env1 => binds3 r ds env1
    | none => none := by
  cases h : bind3 t d env <;> simp [binds3, h]
end L3

namespace L3
open PySem PySem.Spec PyProof.Rows L2
/-! ### sum of a tuple of ints -/
section
variable {X : Cx}
theorem cr_sumT (hc : X.calm = true) : CallR X (.builtin "sum") (fun vs H Q => ∃ (a : Addr) (ns : List Int), vs = [V.ref a] ∧ SqT X.K H a (ns.map V.int) ∧ Q (.int ns.sum) H) := by
  intro pins s σ H vs us Q I r h
  obtain ⟨a, ns, rfl, hs, q⟩ := h
  obtain ⟨its, rv, hl, _⟩ := I.tuple hs
  rw [Vals.ref1 r]
  have hi : IntsAre its ns := rv.ints
  obtain ⟨xs, e⟩ := hi.allInts.items
  have hn : numsOf (intItems xs).toList = ns := by rw [← e]; exact hi.numsOf
  rw [nums_intItems] at hn
  have hl' : s.heap.IsTuple a its.toArray := hl
  rw [e] at hl'
  refine PySem.W.ktm_sumG (I.ok.hd hc) hl' fun h' tk t' hk => ?_
  rw [preSum_eq, List.take_of_length_le (by simp), hn]
  exact ⟨.int _, H, I.kept hk, ⟨_, rfl⟩, q⟩
def rSumA3 : C3 := fun ds S Q => match ds with
  | [d] => match seq3 S d with
    | some es => (match allP int? es with
      | some ns => Q (.p (.int ns.sum)) S
      | none => False)
    | none => False
  | _ => False
theorem cq_sumA (hc : X.calm = true) : CQ X (.builtin "sum") rSumA3 := callq ((cr_sum hc).or (cr_sumT hc)) fun w S ds xs H Q R r0 p0 t q => by
  unfold rSumA3 at t
  split at t
  · obtain ⟨v, rfl, p⟩ := rds1 p0
    split at t
    · rename_i es h1
      split at t
      · rename_i bs h2
        obtain ⟨a, ys, rfl, hq, ha, _⟩ := seq3_low r0 p h1
        rw [allP_int h2] at ha
        rw [dp_ints ha] at hq
        rcases hq with hq | hq
        · exact .inl ⟨a, bs, rfl, hq, q.int r0 t⟩
        · exact .inr ⟨a, bs, rfl, hq, q.int r0 t⟩
      · exact t.elim
    · exact t.elim
  · exact t.elim
end
end L3

/-! ### int of a long text -/
namespace PySem.W
open PySem PySem.Calls PySem.NumText PyProof.Rows
namespace KIN
theorem wp_textL {M : Model} {A : Around} {E : Value → Shared → Prop} {s : Shared} {Q : Value → Shared → Prop} {v : Value} {text : List Nat} {n : Int} (hn : s.heap.NoDigits)
    (hs : ¬ (text.takeWhile (· != 0)).length ≤ 640) (hr : (int_private% "readNumeral") 4300 10 (text.takeWhile (· != 0)) = (int_private% "Numeral.value") n)
    (ha : ((text.takeWhile (· != 0)).length == text.length) = true) (h : Q (.int n s.toks) { s with toks := s.toks + 1 }) :
    wpAny M A ((int_private% "intFromText") v text 10) Q E s := by
  obtain ⟨hp, g, d, tk, os⟩ := s
  obtain ⟨mc, hns, hnone⟩ := hn
  have lim : ∀ {Q' : Nat → Shared → Prop}, Q' 4300 ⟨hp, g, d, tk, os⟩ → wpAny M A Builtin.intMaxStrDigits Q' E ⟨hp, g, d, tk, os⟩ := fun {Q'} q => by
    unfold Builtin.intMaxStrDigits
    refine wpAny_bind (wpAny_nsGet hns ?_)
    rw [hnone]
    exact wpAny_pure q
  repeat (any_goals (first
    | assumption
    | (with_reducible refine wpAny_ite_false (decide_eq_false hs) ?_)
    | (with_reducible refine wpAny_ite_true (decide_eq_true ha) ?_)
    | (refine lim ?_)
    | wp_step))
  all_goals (try rw [hr])
  all_goals (try dsimp only)
  repeat (any_goals (first
    | assumption
    | (with_reducible refine wpAny_ite_true (decide_eq_true ha) ?_)
    | wp_step))
end KIN
end PySem.W
namespace PySem.W
open PySem PySem.Calls PySem.NumText PyProof.Rows
namespace KIN
set_option maxHeartbeats 4000000 in
theorem meets_textL {x : PySem.Str} {u : Tok} {n : Int} (hz : x.length ≤ sizeLine) (hl : ¬ (numSeenOf x).length ≤ 640) (hn : PySem.intText? x = some n) :
    Meets (Builtin.«int.__new__» ⟨[.type "int", .str x u], []⟩) (fun _ R s => s.heap.NoDigits ∧ R (.ok (.ret (.int n s.toks))) { s with toks := s.toks + 1 }) :=
  .of_wp fun prog w A R s h => by
    obtain ⟨hp, g, d, tk, os⟩ := s
    obtain ⟨hnd, h⟩ := h
    have f1 := F.conv_sub_int
    have f2 := F.madeHere_int
    have f3 := str_int
    have f4 := str_idx
    have f5 := str_trunc
    have f6 : typeOf (.str x u) = pure (.type "str") := rfl
    have hr : (int_private% "readNumeral") 4300 10 (numSeenOf x) = (int_private% "Numeral.value") n ∧ ((numSeenOf x).length == (numTextOf x).length) = true := by
      rcases read4300 x hz with ⟨m, h1, h2, h3⟩ | ⟨h1, _⟩
      · rw [hn] at h1
        injection h1 with h1
        subst h1
        exact ⟨h3, h2⟩
      · rw [hn] at h1
        cases h1
    have hk := Hid.mk (And.intro hnd (And.intro hl hr))
    clear hl hr hn hz hnd
    repeat (any_goals (first
      | assumption
      | ((with_reducible show wpAny _ _ ((int_private% "intFromText") _ _ _) _ _ _); refine wp_textL hk.out.1 hk.out.2.1 hk.out.2.2.1 hk.out.2.2.2 ?_)
      | wp_step))
    all_goals first | exact ⟨_, rfl, h⟩ | skip
end KIN
end PySem.W
namespace L3
open PySem PySem.Spec PyProof.Rows L2 PySem.NumText
def TextN (a : Str) (n : Int) : Prop := PySem.intText? a = some n ∧ a.length ≤ 16777216 ∧ (a.length ≤ 640 ∨ ¬ (numSeenOf a).length ≤ 640)
section
variable {X : Cx}
theorem call_int_long (hnd : X.base.NoDigits) : CallR X (.type "int") (fun xs H Q => ∃ a n, xs = [.str a] ∧ TextN a n ∧ Q (.int n) H) := by
  intro pins s σ H xs us Q I rs h
  obtain ⟨a, n, rfl, ⟨hn, hl, hc⟩, h⟩ := h
  have hz : sizeLine = 16777216 := sizeLine_eq
  cases rs with
  | cons r1 rs =>
    cases rs
    obtain ⟨t, rfl⟩ := r1
    rcases hc with hc | hc
    · exact PySem.W.KIN.call_text hn hc ⟨.int n, H, I.tok _, ⟨_, rfl⟩, h⟩
    · refine PySem.call_int_1 (PySem.W.KIN.meets_textL (by omega) hc hn) ⟨hnd.keeps I.bk, ?_⟩
      exact ⟨typeIs_int _ _ _, .int n, H, I.tok _, ⟨_, rfl⟩, h⟩
/-- a text of one sign, so and so often -/
def repS (a : Str) (k : Int) : Str := ⟨(List.replicate k.toNat a.cps).foldl (· ++ ·) #[]⟩
theorem repS_list (a : Str) (k : Int) : (repS a k).cps.toList = (List.replicate k.toNat a.cps.toList).flatten := by
  unfold repS
  show ((List.replicate k.toNat a.cps).foldl (· ++ ·) #[]).toList = _
  have go : ∀ (m : Nat) (acc : Array Nat), ((List.replicate m a.cps).foldl (· ++ ·) acc).toList = acc.toList ++ (List.replicate m a.cps.toList).flatten := by
    intro m
    induction m with
    | zero => intro acc; simp
    | succ m ih =>
      intro acc
      rw [List.replicate_succ, List.foldl_cons, ih, List.replicate_succ, List.flatten_cons]
      simp
  rw [go]
  simp
theorem repS_one {a : Str} {c : Nat} (h : a.cps.toList = [c]) (k : Int) : (repS a k).cps.toList = List.replicate k.toNat c := by
  rw [repS_list, h]
  induction k.toNat with
  | zero => rfl
  | succ n ih => rw [List.replicate_succ, List.flatten_cons, ih, List.replicate_succ]; rfl
theorem op_mulS : OpR X (binaryOp .Mult) (fun x y H Q => ∃ a k, x = .str a ∧ y = .int k ∧ a.length = 1 ∧ 2 ≤ k ∧ k ≤ 100000 ∧ Q (.str (repS a k)) H) := by
  intro pins s σ H x y v u Q I rx ry h
  obtain ⟨a, k, rfl, rfl, h1, h2, h3, q⟩ := h
  obtain ⟨t, rfl⟩ := rx
  obtain ⟨t', rfl⟩ := ry
  have hz : sizeLine = 16777216 := sizeLine_eq
  have hne : (k == 1 || a.length == 0) = false := by
    rw [h1]
    simp
    omega
  have hlen : (repS a k).length ≤ sizeLine := by
    obtain ⟨c, hc⟩ : ∃ c, a.cps.toList = [c] := List.length_eq_one_iff.mp (by rw [Array.length_toList]; exact h1)
    have := repS_one hc k
    have e : (repS a k).length = k.toNat := by
      show (repS a k).cps.size = _
      rw [← Array.length_toList, this, List.length_replicate]
    omega
  refine PySem.P.mul_str (by rw [decide_eq_false (by omega), decide_eq_false (by omega)]; rfl) (fun _ _ => ?_) (fun _ _ => ?_) ?_
  · rw [h1]
    have : (1 : Int) ≤ (2 ^ 63 - 1) / k := (Int.le_ediv_iff_mul_le (by omega)).mpr (by omega)
    omega
  · unfold Builtin.Str.tooLong
    rw [h1, hz]
    exact decide_eq_false (by omega)
  · rw [if_neg (by omega), if_neg (by rw [hne]; exact Bool.false_ne_true)]
    exact ⟨hlen, ⟨.str _, H, I.tok _, ⟨_, rfl⟩, q⟩⟩
def rMulS3 : R3 := fun x y S Q => match x, y with
  | .p (.str a), .p (.int k) => (a.length = 1 ∧ 2 ≤ k ∧ k ≤ 100000) ∧ Q (.p (.str (repS a k))) S
  | _, _ => False
theorem oq_mulS : OQ X (binaryOp .Mult) rMulS3 := opq op_mulS fun w S d e x y H Q R r0 p1 p2 t q => by
  unfold rMulS3 at t
  split at t
  · obtain ⟨⟨h1, h2, h3⟩, t⟩ := t
    exact ⟨_, _, dp_str p1, dp_int p2, h1, h2, h3, q.str r0 t⟩
  · exact t.elim
def rIntT3 : C3 := fun ds S Q => match ds with
  | [.p (.str a)] => ∃ n, TextN a n ∧ Q (.p (.int n)) S
  | _ => False
theorem cq_intT (hnd : X.base.NoDigits) : CQ X (.type "int") rIntT3 := callq (call_int_long hnd) fun w S ds xs H Q R r0 p1 t q => by
  unfold rIntT3 at t
  split at t
  · obtain ⟨v, rfl, p⟩ := rds1 p1
    have := dp_str p
    subst this
    obtain ⟨n, h1, t⟩ := t
    exact ⟨_, n, rfl, h1, q.int r0 t⟩
  · exact t.elim
/-- 1 and k noughts -/
theorem text_big {k : Int} (h0 : 2 ≤ k) (h1 : k ≤ 4299) : ∃ n : Int, TextN (PySem.Str.ofString "1" ++ repS (PySem.Str.ofString "0") k) n ∧ 0 < n := by
  have e0 : (repS (PySem.Str.ofString "0") k).cps.toList = List.replicate k.toNat 48 := repS_one (by decide +kernel) k
  have e : (PySem.Str.ofString "1" ++ repS (PySem.Str.ofString "0") k).cps.toList = 49 :: List.replicate k.toNat 48 := by
    show ((PySem.Str.ofString "1").cps ++ (repS (PySem.Str.ofString "0") k).cps).toList = _
    rw [Array.toList_append, e0]
    rfl
  have hl : (PySem.Str.ofString "1" ++ repS (PySem.Str.ofString "0") k).length = k.toNat + 1 := by
    show (PySem.Str.ofString "1" ++ repS (PySem.Str.ofString "0") k).cps.size = _
    rw [← Array.length_toList, e, List.length_cons, List.length_replicate]
  have ad : AllDigits (PySem.Str.ofString "1" ++ repS (PySem.Str.ofString "0") k).cps.toList := by
    rw [e]
    intro c hc
    rcases List.mem_cons.mp hc with rfl | hc
    · decide
    · rw [(List.mem_replicate.mp hc).2]
      decide
  refine ⟨_, ⟨intText_digits ad (by rw [e]; simp) (by omega), by omega, ?_⟩, ?_⟩
  · obtain ⟨_, e2⟩ := numText_signs (fun c hc => Or.inr (ad c hc))
    rw [e2, e, List.length_cons, List.length_replicate, hl]
    omega
  · rw [e]
    have := digitsVal_pos (c := 49) (cs := List.replicate k.toNat 48) (by decide)
    omega
end
/-! ### the law's head, with the digits' limit as it stands at first -/
theorem call_headD {P : Program} {w : World} {K : PySem.W.Frag} {mg mb : Str → Option Value} {k : Nat} {fa a : Addr} {fd : FuncData} {x : Str} {sp : L2.Sp} {s₁ : Shared} {vs : List Value} {ns : List Int}
    (KX : K.In s₁.heap) (hns : s₁.heap.Ns mainGlobals mg) (hb : s₁.heap.Ns builtinsNs mb) (hbb : ∀ x : Str, x ≠ "__name__" → mb x = bootBuiltins x) (hlim : s₁.heap.NoLimit) (hdg : s₁.heap.NoDigits) (hg : s₁.gens = #[])
    (ha : s₁.heap.get? a = some { cls := .type "list", data := .seq vs.toArray }) (hi : IntsAre vs ns) (hl : ns.length ≤ sizeLine) (hr : Room k callerA)
    (F : ∀ base : Heap, K.In base → base.Ns mainGlobals mg → base.NoDigits → FnG P w K mg base k fa fd [x] sp) (hbind : ∀ (s : Shared) (u : Value), BindsTo s fd ⟨[u], []⟩ [(x, u)])
    (hsp : ∀ H : Hp, Only H → SqL K H a (ns.map V.int) → sp [.ref a] H (fun v _ => v = .bl true) fun _ _ _ => False) :
    codeAny (model P w) callerA (.call (.ref fa) ⟨[.ref a], []⟩) (fun r s' => r = .ok (.ret (.bool true)) ∧ OldK s₁.heap s'.heap ∧ s'.os = s₁.os ∧ AllBare s'.gens) s₁ := by
  have rv := vals_ints hi
  have lenV := hi.length
  have go : ∀ H : Hp, Only H → SqL K H a (ns.map V.int) → HOk P w H s₁.heap → (∀ b, H b ≠ none → b = a) → (H a ≠ none → K.lookup a = none) →
      codeAny (model P w) callerA (.call (.ref fa) ⟨[.ref a], []⟩) (fun r s' => r = .ok (.ret (.bool true)) ∧ OldK s₁.heap s'.heap ∧ s'.os = s₁.os ∧ AllBare s'.gens) s₁ := fun H hO hS hok hA hK => by
    have free : ∀ {b : Addr}, (b = a → False) → H b = none := fun {b} n => by
      cases q : H b with
      | none => rfl
      | some u => exact (n (hA b (by rw [q]; simp))).elim
    have nsK : ∀ {b : Addr} {m : Str → Option Value}, s₁.heap.Ns b m → (hidT s₁.heap H).Ns b m := fun {b m} ⟨o, es, ep, e, d, r⟩ => ⟨o, es, ep, hidT_get e (free fun z => by
      subst z
      rw [ha] at e
      cases e
      cases (show Data.seq vs.toArray _ = Data.dict es ep from d)), d, r⟩
    have hKb : K.In (hidT s₁.heap H) := fun b o e => hidT_get (KX b o e) (by
      cases q : H b with
      | none => rfl
      | some u =>
        have z := hA b (by rw [q]; simp)
        subst z
        rw [hK (by rw [q]; simp)] at e
        cases e)
    have hM : Mod K mg (hidT s₁.heap H) := ⟨hKb, nsK hns, ⟨mb, nsK hb, hbb⟩, let ⟨mc, h1, h2⟩ := hlim; ⟨mc, nsK h1, h2⟩⟩
    have e0 : Env0 P w K mg (hidT s₁.heap H) callerA [] s₁ H := ⟨rfl, hM, fun b o e => of_hidT e, Nat.le_of_eq (hidT_size _ _), trivial, fun b hb => absurd (show b ∈ ([] : List Addr) from hb) (by simp), hok, .of_eq hg⟩
    refine codeAny_mono ((F _ hKb (nsK hns) (let ⟨mc, h1, h2⟩ := hdg; ⟨mc, nsK h1, h2⟩)).run callerA [] s₁ H ⟨[.ref a], []⟩ [.ref a] [.ref a] _ _ rfl hr e0 (hbind s₁ (.ref a)) (.cons rfl .nil) (hsp H hO hS)) fun r s' h => ?_
    cases r with
    | error e => exact h.elim
    | ok fl =>
      cases fl with
      | next => exact False.elim h
      | brk => exact False.elim h
      | cont => exact False.elim h
      | ret u =>
        obtain ⟨v, H', os, bare, un, hok', r', q⟩ := h
        subst q
        cases r'
        refine ⟨rfl, OldK.of_keep fun b o e => ?_, os, bare⟩
        cases q : H b with
        | none => exact un.keep b o e q (by intro z; exact absurd (show b ∈ ([] : List Addr) from z) (by simp)) (by simp)
        | some u =>
          rcases hO b with z | ⟨ob, xs, z⟩
          · rw [q] at z; cases z
          · obtain ⟨e1, _⟩ := hok b _ z
            obtain ⟨e2, _⟩ := hok' b _ (un.frzs b ob _ z)
            rw [e] at e1
            cases e1
            exact e2
  cases hk : K.lookup a with
  | some o =>
    have e := KX a o hk
    rw [ha] at e
    cases e
    exact go (fun _ => none) (fun _ => .inl rfl) (.inr ⟨_, vs.toArray, _, hk, rfl, rfl, rfl, by rw [List.size_toArray, lenV]; exact hl, by simpa using rv⟩) (fun b u z => nomatch z) (fun b z => absurd rfl z) fun z => absurd rfl z
  | none =>
    refine go (upd (fun _ => none) a (.frz { cls := .type "list", data := .seq vs.toArray } (.lst (ns.map V.int)))) (fun b => ?_) (.inl (.inr ⟨{ cls := .type "list", data := .seq vs.toArray }, upd_same⟩)) (fun b u z => ?_) (fun b z => ?_) fun _ => hk
    · by_cases hb : b = a
      · subst hb
        exact .inr ⟨_, _, upd_same⟩
      · exact .inl (upd_ne hb)
    · by_cases hb : b = a
      · subst hb
        rw [upd_same] at z
        cases z
        exact ⟨ha, by rw [List.length_map]; exact hl, vs, _, rv, ha⟩
      · rw [upd_ne hb] at z
        cases z
    · by_cases hb : b = a
      · exact hb
      · exact absurd (upd_ne hb) z
theorem walk_ofD {l : PySem.W.OpenLaw} {n k : Nat} {q : Program} {loose : List Str} {XP : (Str → Option Value) → Heap → Prop} {YP : World → Heap → Prop} {d : DefRec} {K : Params → PySem.W.Frag} {sp : World → L2.Sp} {x : Str}
    (hn : l.most = some n) (hn2 : n ≤ sizeLine) (hdf : d.params.defaults = []) (hr : Room k callerA)
    (hY : ∀ (w : World) (h : Heap), YP w h → (K w.params).In h)
    (F : ∀ (w : World) (mg : Str → Option Value) (fa : Addr) (h : Heap), (K w.params).In h → h.Ns mainGlobals mg → mg d.name = some (.ref fa) →
      ∃ fd : FuncData, (∀ (s : Shared) (u : Value), BindsTo s fd ⟨[u], []⟩ [(x, u)]) ∧
        ∀ base : Heap, (K w.params).In base → base.Ns mainGlobals mg → base.NoDigits → FnG l.prog w (K w.params) mg base k fa fd [x] (sp w))
    (hsp : ∀ (w : World) (H : Hp) (a : Addr) (ns : List Int), ns.length ≤ n → Only H → SqL (K w.params) H a (ns.map V.int) → sp w [.ref a] H (fun v _ => v = .bl true) fun _ _ _ => False) :
    PySem.W.WalkO q loose XP YP l.row.toRowW d [] (fun f vs => PySem.call f vs) := by
  refine Att.attach_call hn hdf fun w s₀ s₁ mg mb fa o pm cd doc a vs ns G Y ho hd hcd hmg hobj hints hlen hg => ?_
  obtain ⟨fd, hb, hF⟩ := F w mg fa _ (hY w _ Y) G.T.g hmg
  exact call_headD (hY w _ Y) G.T.g G.T.b G.T.builtins G.T.nolimit G.T.nodigits hg hobj hints (Nat.le_trans hlen hn2) hr hF hb fun H hO hS => hsp w H a ns hlen hO hS
end L3

namespace L3
open PySem PySem.Spec PyProof.Rows L2
/-! ### xs.extend(new list) -/
def tExt3 (to : TE3) (tn : TN3) : TE3 := fun env S Q => to env S fun o S1 => match own3 S1 o with
  | some _ => tn env S1 fun es S2 => match own3 S2 o with
    | some (n, ds) => ds.length + es.length ≤ 16777216 ∧ Q (.p .none) (S2.set n (some (.lst (ds ++ es))))
    | none => False
  | none => False
section
variable {X : Cx} {o e : Expr} {to te : TE3} {tn : TN3} {apos cpos pos : Pos}
theorem qe_extend (ho : QE X o to) (he : QN X e tn) (hbase : attributeBase o "extend" X.env (eval o X.env) = eval o X.env := by rfl)
    (hfew : ((backTo cpos (starEach [e] X.env)).all (fun x => !x.1) && (backToKw cpos (keywordEach [] X.env)).all (fun x => x.1.isSome)
      && decide (([e] : List Expr).length + ([] : List Keyword).length + (if ([] : List Keyword).isEmpty then 0 else 1) < 30)) = true := by rfl)
    (hline : (apos.endLine == cpos.line) = true := by rfl) (hs : starEach [e] X.env = (false, eval e X.env) :: starEach [] X.env := by rfl) (hplain : (backTo cpos (starEach [] X.env)).any (·.1) = false := by rfl) :
    QE X (.Call (.Attribute o "extend" apos) [e] [] cpos) (tExt3 to tn) :=
  (pe_bm PySem.F.plainAttrs_list PySem.F.slot_list_extend PySem.F.type_list_extend mt_extend ho (pa_cons he pa_nil hs) hbase hfew hline hs hplain).imp fun σ H R ⟨w, env, S, Q, r0, en, t, q⟩ => by
    have hz : sizeLine = 16777216 := sizeLine_eq
    refine ⟨w, env, S, _, r0, en, t, fun w1 v d H1 S1 e1 r1 p1 t1 => ?_⟩
    split at t1
    · rename_i nd ho1
      obtain ⟨n0, ds0⟩ := nd
      obtain ⟨a0, xs0, rfl, hd0, _, _, hu0, _, _⟩ := own3_low r1 p1 ho1
      refine ⟨.inl ⟨rfl, xs0, .inl (.inl hu0)⟩, ?_⟩
      refine ⟨w1, env, S1, _, r1, en.mono e1, t1, fun w2 b zs es H2 S2 e2 r2 hn hzs hzl t2 => ?_⟩
      split at t2
      · rename_i n ds ho2
        obtain ⟨a, xs, hva, rfl, ha, hs, hu, hd, hzz⟩ := own3_low r2 (p1.mono e2) ho2
        cases hva
        have hl := DpAll.length hd
        have hl2 := DpAll.length hzs
        obtain ⟨r3, e3⟩ := r2.frz (u := .lst zs) hn (by show zs.length ≤ _; omega)
        have hne : a0 ≠ b := fun z => by rw [z, hn] at hu; cases hu
        refine ⟨_, b, xs, zs, rfl, rfl, by rw [upd_ne hne]; exact hu, upd_same, by omega, ?_⟩
        exact q _ .non (.p .none) _ _ ((e1.trans e2).trans e3) (r3.put (o' := .lst (ds ++ es)) ha hs ⟨_, rfl, DpAll.append (dpAll_mono e3.h _ _ hd) (dpAll_mono e3.h _ _ hzs), by rw [List.length_append]; omega⟩) rep_non t2.2
      · exact t2.elim
    · exact t1.elim
end
/-! ### x in data -/
def rIn3 (neg : Bool) : R3 := fun x y S Q => match x with
  | .p d => (match lst3 S y with
    | some ds => (SeqAt.shaped d = true ∧ SeqAt.shaped (.list ds) = true) ∧ Q (.p (.bool (if neg then !ds.any fun z => PyData.eqv z d else ds.any fun z => PyData.eqv z d))) S
    | none => False)
  | _ => False
theorem lst3_dp {K : PySem.W.Frag} {w : W3} {H : Hp} {S : S3} {v : V} {d : D} {ds : List PyData} (r : Rel3 K w H S) (p : RepD K w v d) (h : lst3 S d = some ds) : Dp K H v (.list ds) := by
  obtain ⟨a, xs, rfl, hq, ha, _⟩ := lst3_low r p h
  exact .lst hq (dpAll_mono r.sub _ _ ha)
theorem oq_in {X : Cx} (hu : X.A.units + 65 < cLine) : OQ X (compareOp .In) (rIn3 false) := opq (op_inD hu) fun w S d e x y H Q R r0 p1 p2 t q => by
  unfold rIn3 at t
  split at t
  · split at t
    · rename_i ds h
      exact ⟨_, ds, (dp_mono r0.sub _ _ p1).sh t.1.1, (lst3_dp r0 p2 h).sh t.1.2, t.1.1, t.1.2, q.bl r0 t.2⟩
    · exact t.elim
  · exact t.elim
theorem oq_notin {X : Cx} (hu : X.A.units + 65 < cLine) : OQ X (compareOp .NotIn) (rIn3 true) := opq (op_notInD hu) fun w S d e x y H Q R r0 p1 p2 t q => by
  unfold rIn3 at t
  split at t
  · split at t
    · rename_i ds h
      exact ⟨_, ds, (dp_mono r0.sub _ _ p1).sh t.1.1, (lst3_dp r0 p2 h).sh t.1.2, t.1.1, t.1.2, q.bl r0 t.2⟩
    · exact t.elim
  · exact t.elim
/-! ### sorted(ints) -/
def insI (x : Int) : List Int → List Int
  | [] => [x]
  | y :: ys => if x ≤ y then x :: y :: ys else y :: insI x ys
def sortI : List Int → List Int
  | [] => []
  | x :: xs => insI x (sortI xs)
def tSortedI3 (te : TE3) : TN3 := fun env S Q => te env S fun x S1 => match lst3 S1 x with
  | some ds => (match allP int? ds with
    | some ns => ∀ ms : List Int, ms.Perm ns → ms.Pairwise (· ≤ ·) → Q (ms.map PyData.int) S1
    | none => False)
  | none => False
section
variable {X : Cx} {e : Expr} {te : TE3} {p pos : Pos}
theorem qn_sortedI (hg : Gl X "sorted") (hm : X.mg "sorted" = none) (ha : QE X e te) (hs : starEach [e] X.env = (false, eval e X.env) :: starEach [] X.env := by rfl) (hpl : (backTo pos (starEach [] X.env)).any (·.1) = false := by rfl) :
    QN X (.Call (.Name "sorted" p) [e] [] pos) (tSortedI3 te) := L2.PE.imp (pe_callB cr_sortedI hg hm (by decide +kernel) (pa_cons ha pa_nil hs) (by decide) (by decide) hs hpl) fun σ H R ⟨w, env, S, Q, r0, en, t, q⟩ => by
  refine ⟨w, env, S, _, r0, en, t, fun w1 v d H1 S1 e1 r1 p1 t1 => ?_⟩
  split at t1
  · rename_i ds h1
    split at t1
    · rename_i ns h2
      obtain ⟨a, xs, rfl, hq, ha, hz⟩ := lst3_low r1 p1 h1
      have hz' : ds.length ≤ sizeLine := hz
      rw [allP_int h2] at ha hz'
      rw [dp_ints ha] at hq
      refine ⟨a, ns, rfl, hq, fun ms p hp hw hn => ?_⟩
      exact q w1 p (ms.map V.int) (ms.map PyData.int) H1 S1 e1 r1 hn (dpAll_ints ms) (by rw [List.length_map, hp.length_eq]; simpa using hz') (t1 ms hp hw)
    · exact t1.elim
  · exact t1.elim
end
/-! ### x op= e, ints -/
def tAug3 (i : Nat) (r : R3) (te : TE3) : TS3 := fun D env S => match at3 env i with
  | some x => te env S fun y S1 => r x y S1 fun z S2 => D.nx (set3 env i z) S2
  | none => False
def rIp3 (C : Int → Int → Prop) (f : Int → Int → Int) : R3 := rInt C fun i j => .int (f i j)
section
variable {X : Cx} {e : Expr} {te : TE3} {pos : Pos}
theorem ip_fdiv : PIp X .FloorDiv (fun x y H Q => ∃ i j, x = .int i ∧ y = .int j ∧ CDivW i j ∧ Q (.int (i / j)) H) := by
  intro pins s σ H x y v u Q I r1 r2 h
  obtain ⟨i, j, rfl, rfl, hc, q⟩ := h
  obtain ⟨t, rfl⟩ := r1
  obtain ⟨t', rfl⟩ := r2
  have h1 : (0 : Int) < j := hc.1
  refine PySem.AutoIntOps.ifloordiv_1 (by simp; omega) (by rw [Bool.not_eq_true]; exact PyProof.noPylong_of_log2 hc.2) ?_
  rw [Int.fdiv_eq_ediv_of_nonneg i (by omega)]
  exact ⟨.int _, H, I.tok _, ⟨_, rfl⟩, q⟩
theorem low_aug {K : PySem.W.Frag} {i : Nat} {r : R3} {tip : TIp} (hi : ∀ x y H R, lowR K r x y H R → tip x y H R) {D : Ends} {σ : L2.St} {H : Hp} (h : lowS K (tAug3 i r te) D σ H) : L2.tAug i (low K te) tip D σ H := by
  obtain ⟨w, env, S, D3, r0, en, t, q⟩ := h
  unfold tAug3 at t
  split at t
  · rename_i x hx
    obtain ⟨v, hv, p0⟩ := en.2 i x hx
    refine ⟨v, hv, w, env, S, _, r0, en, t, fun w1 u y H1 S1 e1 r1 p1 t1 => ?_⟩
    refine hi _ _ _ _ ⟨w1, S1, x, y, _, r1, p0.mono e1, p1, t1, fun w2 z d2 H2 S2 e2 r2 p2 t2 => ?_⟩
    exact q.nx w2 _ H2 _ S2 (e1.trans e2) r2 (((en.mono e1).mono e2).set i p2) t2
  · exact t.elim
theorem qs_aug {i : Nat} {x : Str} {op : Operator} {r : R3} {tip : TIp} {pos' : Pos} (hN : X.N.Nodup) (hi : X.N[i]? = some x) (hx : Loc X.env.scope x) (he : QE X e te) (ho : PIp X op tip ∧ ∀ x y H R, lowR X.K r x y H R → tip x y H R) (hf : X.fn x = true ∨ X.env.scope.names.lookup x = some .local := by first | exact .inl rfl | exact .inr rfl | assumption) :
    QS X (.AugAssign (.Name x pos') op e pos) (tAug3 i r te) := (ps_aug hN hi hx he ho.1 hf).imp fun D σ H h => low_aug ho.2 h
theorem pq_add : PIp X .Add (ipI fun i j => i + j) ∧ ∀ x y H R, lowR X.K (rInt0 fun i j => .int (i + j)) x y H R → ipI (fun i j => i + j) x y H R := ⟨ip_add, fun x y H R ⟨w, S, d, e, Q, r0, p1, p2, t, q⟩ => by
  obtain ⟨i, j, rfl, rfl, t⟩ := rint0_inv t
  exact ⟨i, j, dp_int p1, dp_int p2, q.int r0 t⟩⟩
theorem pq_sub : PIp X .Sub (ipI fun i j => i - j) ∧ ∀ x y H R, lowR X.K rSub3 x y H R → ipI (fun i j => i - j) x y H R := ⟨ip_sub, fun x y H R ⟨w, S, d, e, Q, r0, p1, p2, t, q⟩ => by
  obtain ⟨i, j, rfl, rfl, t⟩ := rint0_inv t
  exact ⟨i, j, dp_int p1, dp_int p2, q.int r0 t⟩⟩
theorem pq_div : PIp X .FloorDiv (fun x y H Q => ∃ i j, x = .int i ∧ y = .int j ∧ CDivW i j ∧ Q (.int (i / j)) H) ∧ ∀ x y H R, lowR X.K rDiv3 x y H R → (∃ i j, x = .int i ∧ y = .int j ∧ CDivW i j ∧ R (.int (i / j)) H) := ⟨ip_fdiv, fun x y H R ⟨w, S, d, e, Q, r0, p1, p2, t, q⟩ => by
  obtain ⟨i, j, rfl, rfl, hc, t⟩ := rint_inv t
  exact ⟨i, j, dp_int p1, dp_int p2, hc.log, q.int r0 t⟩⟩
end
/-! ### a def that calls itself: nothing is promised at first -/
theorem ok3_never {P : Program} {w : World} {K : PySem.W.Frag} {mg : Str → Option Value} {base : Heap} {x : Str} {st : Stmt} {f : Addr} {fd : FuncData} {ps : List Str} {k : Nat} (F : Fun K x x st f fd) (hm : mg x = some (.ref f)) (b : Binds K fd ps []) : Ok3 P w K mg base k x (fun _ _ _ => False) :=
  ⟨f, fd, ps, hm, F.kp, b, ⟨fun vs H Q E h => let ⟨_, _, _, _, _, _, q, _⟩ := h; q.elim, fun A outer s H args us vs Q E _ _ _ _ h => let ⟨_, _, _, _, _, _, q, _⟩ := h; q.elim⟩⟩
end L3

namespace L3
open PySem PySem.Spec PyProof.Rows L2
/-! ### sorted(data), any number of them -/
open PySem.W in
theorem each_zip {X : Cx} {pins : List (Addr × Obj)} {σ : L2.St} {H : Hp} {s : Shared} (I : L2.Inv X pins σ H s) : ∀ {its : List Value} {xs : List V} {ds : List PyData}, Vals xs its → DpAll X.K H xs ds →
    EachIs (fun v (b : V × PyData) => RelV b.1 v) its (xs.zip ds) ∧ EachIs (fun v (b : V × PyData) => ∃ as, Reads s.heap v b.2 as) its (xs.zip ds)
  | _, _, _, .nil, .nil => ⟨.nil, .nil⟩
  | _, _, _, .cons r rs, .cons p ps => by
    obtain ⟨h1, h2⟩ := each_zip I rs ps
    exact ⟨.cons r h1, .cons (Dp.reads I _ _ _ p r) h2⟩
open PySem.W in
theorem vals_each : ∀ {out : List Value} {bs : List (V × PyData)}, EachIs (fun v (b : V × PyData) => RelV b.1 v) out bs → Vals (bs.map (·.1)) out
  | _, _, .nil => .nil
  | _, _, .cons r rs => .cons r (vals_each rs)
theorem zip_snd : ∀ {xs : List V} {ds : List PyData}, xs.length = ds.length → (xs.zip ds).map (·.2) = ds
  | [], [], _ => rfl
  | x :: xs, d :: ds, h => by
    rw [List.zip_cons_cons, List.map_cons, zip_snd (by simpa using h)]
  | [], _ :: _, h => by cases h
  | _ :: _, [], h => by cases h
open PySem.W in
def rSortedD (K : PySem.W.Frag) : List V → Hp → VK → Prop := fun vs H Q => ∃ (a : Addr) (xs : List V) (ds : List PyData), vs = [V.ref a] ∧ SqL K H a xs ∧ DpAll K H xs ds ∧ AllAlike ds ∧ Sortable ds ∧ (∀ d ∈ ds, d.depth ≤ 60) ∧
  ∀ p, H p = none → Q (.ref p) (upd H p (.lst (((xs.zip ds).mergeSort (dataLe false Prod.snd)).map (·.1))))
open PySem.W in
theorem cr_sortedD {X : Cx} (hu : X.A.units + 64 < cLine) : CallR X (.builtin "sorted") (rSortedD X.K) := by
  intro pins s σ H vs us Q I r h
  obtain ⟨a, xs, ds, rfl, hs, hd, hal, hk, hdep, q⟩ := h
  obtain ⟨its, rv, hl, hz⟩ := I.list hs
  rw [Vals.ref1 r]
  obtain ⟨e1, e2⟩ := each_zip I rv hd
  have hlen := DpAll.length hd
  have hsnd := zip_snd hlen
  have hm : (xs.zip ds).map Prod.snd = ds := hsnd
  have hbl : (xs.zip ds).length = xs.length := by rw [List.length_zip]; omega
  refine sorted_data (bs := xs.zip ds) (enc := Prod.snd) (R := fun v (b : V × PyData) => RelV b.1 v) hl.isList e1 e2 (by rw [hm]; exact hal) (by rw [hm]; exact hk) (by rw [hbl]; exact hz) (fun b hb => ?_) fun out ho hR => ?_
  · have : b.2 ∈ ds := by
      rw [← hm]
      exact List.mem_map.mpr ⟨b, hb, rfl⟩
    have := hdep _ this
    omega
  · obtain ⟨ep, he'⟩ := PyProof.Rows.sortedAll_at s.heap its out.toArray
    have hl2 : (((xs.zip ds).mergeSort (dataLe false Prod.snd)).map (·.1)).length ≤ sizeLine := by
      rw [List.length_map, List.length_mergeSort, hbl]
      exact hz
    exact ⟨.ref _, upd H (s.heap.objs.size + 1) (.lst (((xs.zip ds).mergeSort (dataLe false Prod.snd)).map (·.1))), I.laid (t' := s.toks) (fun _ _ => PyProof.Rows.sortedAll_old) (Nat.le_succ _) ⟨hl2, out, ep, vals_each hR, he'⟩, rfl, q _ (I.hok.fresh (Nat.le_succ _))⟩
/-- the data in order -/
def sortD (ds : List PyData) : List PyData := ds.mergeSort (PySem.W.dataLe false id)
theorem zip_dp {K : PySem.W.Frag} {h : Hp} : ∀ {xs : List V} {ds : List PyData}, DpAll K h xs ds → ∀ p ∈ xs.zip ds, Dp K h p.1 p.2
  | _, _, .nil, p, hp => by cases hp
  | _, _, .cons r rs, p, hp => by
    rcases List.mem_cons.mp hp with rfl | hp
    · exact r
    · exact zip_dp rs p hp
theorem dp_unzip {K : PySem.W.Frag} {h : Hp} : ∀ {ps : List (V × PyData)}, (∀ p ∈ ps, Dp K h p.1 p.2) → DpAll K h (ps.map (·.1)) (ps.map (·.2))
  | [], _ => .nil
  | p :: ps, hp => .cons (hp p List.mem_cons_self) (dp_unzip fun q hq => hp q (List.mem_cons_of_mem _ hq))
def tSortedD3 (te : TE3) : TN3 := fun env S Q => te env S fun x S1 => match lst3 S1 x with
  | some ds => (PySem.W.AllAlike ds ∧ PySem.W.Sortable ds ∧ ∀ d ∈ ds, d.depth ≤ 60) ∧ Q (sortD ds) S1
  | none => False
theorem qn_sortedD {X : Cx} {e : Expr} {te : TE3} {p pos : Pos} (hu : X.A.units + 64 < cLine) (hg : Gl X "sorted") (hm : X.mg "sorted" = none) (ha : QE X e te) (hs : starEach [e] X.env = (false, eval e X.env) :: starEach [] X.env := by rfl) (hpl : (backTo pos (starEach [] X.env)).any (·.1) = false := by rfl) :
    QN X (.Call (.Name "sorted" p) [e] [] pos) (tSortedD3 te) := L2.PE.imp (pe_callB (cr_sortedD hu) hg hm (by decide +kernel) (pa_cons ha pa_nil hs) (by decide) (by decide) hs hpl) fun σ H R ⟨w, env, S, Q, r0, en, t, q⟩ => by
  refine ⟨w, env, S, _, r0, en, t, fun w1 v d H1 S1 e1 r1 p1 t1 => ?_⟩
  split at t1
  · rename_i ds h1
    obtain ⟨a, xs, rfl, hq, hd, hz⟩ := lst3_low r1 p1 h1
    have hlen := DpAll.length hd
    obtain ⟨⟨c1, c2, c3⟩, t1⟩ := t1
    refine ⟨a, xs, ds, rfl, hq, dpAll_mono r1.sub _ _ hd, c1, c2, c3, fun p hn => ?_⟩
    have hsnd : ((xs.zip ds).mergeSort (PySem.W.dataLe false Prod.snd)).map (·.2) = sortD ds := by
      have e := List.map_mergeSort (f := fun x : V × PyData => x.2) (r := PySem.W.dataLe false Prod.snd) (s := PySem.W.dataLe false id) (l := xs.zip ds) (fun _ _ _ _ => rfl)
      unfold sortD
      rw [e, zip_snd hlen]
    refine q w1 p _ (sortD ds) H1 S1 e1 r1 hn ?_ ?_ t1
    · rw [← hsnd]
      exact dp_unzip fun p hp => zip_dp hd p (List.mem_mergeSort.mp hp)
    · unfold sortD
      rw [List.length_mergeSort]
      exact hz
  · exact t1.elim
end L3

namespace L3
open PySem PySem.Spec PyProof.Rows L2
/-! ### < and <= of data of one shape -/
def LtOk (d e : PyData) : Prop := PySem.W.alike d e = true ∧ d ≠ .none ∧ d.depth ≤ 60
def rLtD3 : R3 := fun x y S Q => match x, y with
  | .p (.int i), .p (.int j) => Q (.p (.bool (decide (i < j)))) S
  | .p d, .p e => LtOk d e ∧ Q (.p (.bool (PySem.W.dataLt d e))) S
  | _, _ => False
theorem op_ltD {X : Cx} (hu : X.A.units + 64 < cLine) : OpR X (compareOp .Lt) (fun x y H Q => ∃ d e, Dp X.K H x d ∧ Dp X.K H y e ∧ LtOk d e ∧ Q (.bl (PySem.W.dataLt d e)) H) := by
  intro pins s σ H x y v u Q I rx ry h
  obtain ⟨d, e, hd, he, ⟨h1, h2, h3⟩, q⟩ := h
  obtain ⟨as, r1⟩ := Dp.reads I d x v hd rx
  obtain ⟨bs, r2⟩ := Dp.reads I e y u he ry
  exact PySem.W.rcLt_alike d e X.A s v u as bs r1 r2 h1 h2 (by omega) X.prog X.w X.xe _ ⟨.bl _, H, I, rfl, q⟩
theorem oq_ltD {X : Cx} (hu : X.A.units + 64 < cLine) : OQ X (compareOp .Lt) rLtD3 := opq (op_lt.or (op_ltD hu)) fun w S d e x y H Q R r0 p1 p2 t q => by
  unfold rLtD3 at t
  split at t
  · exact .inl ⟨_, _, dp_int p1, dp_int p2, q.bl r0 t⟩
  · exact .inr ⟨_, _, dp_mono r0.sub _ _ p1, dp_mono r0.sub _ _ p2, t.1, q.bl r0 t.2⟩
  · exact t.elim
end L3

namespace L3
open PySem PySem.Spec PyProof.Rows L2
/-! ### list(range(..)), tuple(range(..)), range with a step -/
theorem dp_rg {K : PySem.W.Frag} {h : Hp} (a b : Int) : DpAll K h (rgV a b) (rng a (b - a).toNat) := by
  unfold rgV rng
  induction List.range (b - a).toNat with
  | nil => exact .nil
  | cons x xs ih => exact .cons (.int _) ih
def tRgA3 (te : TE3) (k : Int → Int → S3 → Prop) : E3 → S3 → Prop := fun env S => te env S fun x S1 => match x with
  | .p (.int n) => (0 ≤ n ∧ n ≤ 16777216) ∧ k 0 n S1
  | _ => False
def tRgB3 (ta tb : TE3) (k : Int → Int → S3 → Prop) : E3 → S3 → Prop := fun env S => ta env S fun x S1 => tb env S1 fun y S2 => match x, y with
  | .p (.int a), .p (.int b) => (0 ≤ a ∧ a ≤ 16777216 ∧ 0 ≤ b ∧ b ≤ 16777216) ∧ k a b S2
  | _, _ => False
def tLstRgA (te : TE3) : TN3 := fun env S Q => tRgA3 te (fun a b S1 => Q (rng a (b - a).toNat) S1) env S
def tLstRgB (ta tb : TE3) : TN3 := fun env S Q => tRgB3 ta tb (fun a b S1 => Q (rng a (b - a).toNat) S1) env S
def tTupRgA (te : TE3) : TE3 := fun env S Q => tRgA3 te (fun a b S1 => Q (.p (.tuple (rng a (b - a).toNat))) S1) env S
def tTupRgB (ta tb : TE3) : TE3 := fun env S Q => tRgB3 ta tb (fun a b S1 => Q (.p (.tuple (rng a (b - a).toNat))) S1) env S
section
variable {X : Cx} {a b : Expr} {ta tb : TE3} {p p2 pos pos2 : Pos}
theorem qn_listRgA (hc : X.calm = true) (hg : Gl X "list") (hm : X.mg "list" = none) (hg2 : Gl X "range") (hm2 : X.mg "range" = none) (ha : QE X a ta) (na : starEach [a] X.env = (false, eval a X.env) :: starEach [] X.env := by rfl)
    (nb : starEach [.Call (.Name "range" p2) [a] [] pos2] X.env = (false, eval (.Call (.Name "range" p2) [a] [] pos2) X.env) :: starEach [] X.env := by rfl) :
    QN X (.Call (.Name "list" p) [.Call (.Name "range" p2) [a] [] pos2] [] pos) (tLstRgA ta) := L2.PE.imp (pe_listRg hc hg hm (prg_1 hg2 hm2 ha na) nb) fun σ H R ⟨w, env, S, Q, r0, en, t, q⟩ => by
  have hz : sizeLine = 16777216 := sizeLine_eq
  refine ⟨w, env, S, _, r0, en, t, fun w1 v d H1 S1 e1 r1 p1 t1 => ?_⟩
  split at t1
  · rename_i n
    obtain ⟨⟨h0, h1⟩, t1⟩ := t1
    refine ⟨n, dp_int p1, RgOk.of_le (by omega) h1 (by omega) h0, fun l hn => ?_⟩
    exact q w1 l _ _ H1 S1 e1 r1 hn (dp_rg 0 n) (by rw [rng_len]; omega) t1
  · exact t1.elim
theorem qn_listRgB (hc : X.calm = true) (hg : Gl X "list") (hm : X.mg "list" = none) (hg2 : Gl X "range") (hm2 : X.mg "range" = none) (ha : QE X a ta) (hb : QE X b tb)
    (na : starEach [a, b] X.env = (false, eval a X.env) :: starEach [b] X.env := by rfl) (nab : starEach [b] X.env = (false, eval b X.env) :: starEach [] X.env := by rfl) (hpb : (backTo pos2 (starEach [b] X.env)).any (·.1) = false := by rfl)
    (nb : starEach [.Call (.Name "range" p2) [a, b] [] pos2] X.env = (false, eval (.Call (.Name "range" p2) [a, b] [] pos2) X.env) :: starEach [] X.env := by rfl) :
    QN X (.Call (.Name "list" p) [.Call (.Name "range" p2) [a, b] [] pos2] [] pos) (tLstRgB ta tb) := L2.PE.imp (pe_listRg hc hg hm (prg_2 hg2 hm2 ha hb na nab hpb) nb) fun σ H R ⟨w, env, S, Q, r0, en, t, q⟩ => by
  have hz : sizeLine = 16777216 := sizeLine_eq
  refine ⟨w, env, S, _, r0, en, t, fun w1 v d H1 S1 e1 r1 p1 t1 => ?_⟩
  refine ⟨w1, env, S1, _, r1, en.mono e1, t1, fun w2 u e H2 S2 e2 r2 p2 t2 => ?_⟩
  split at t2
  · rename_i m n
    obtain ⟨⟨h0, h1, h2, h3⟩, t2⟩ := t2
    refine ⟨m, n, dp_int (p1.mono e2), dp_int p2, RgOk.of_le h0 h3 h1 h2, fun l hn => ?_⟩
    exact q w2 l _ _ H2 S2 (e1.trans e2) r2 hn (dp_rg m n) (by rw [rng_len]; omega) t2
  · exact t2.elim
theorem qe_tupRgA (hc : X.calm = true) (hg : Gl X "tuple") (hm : X.mg "tuple" = none) (hg2 : Gl X "range") (hm2 : X.mg "range" = none) (ha : QE X a ta) (na : starEach [a] X.env = (false, eval a X.env) :: starEach [] X.env := by rfl)
    (nb : starEach [.Call (.Name "range" p2) [a] [] pos2] X.env = (false, eval (.Call (.Name "range" p2) [a] [] pos2) X.env) :: starEach [] X.env := by rfl) :
    QE X (.Call (.Name "tuple" p) [.Call (.Name "range" p2) [a] [] pos2] [] pos) (tTupRgA ta) := L2.PE.imp (pe_tupRg hc hg hm (prg_1 hg2 hm2 ha na) nb) fun σ H R ⟨w, env, S, Q, r0, en, t, q⟩ => by
  have hz : sizeLine = 16777216 := sizeLine_eq
  refine ⟨w, env, S, _, r0, en, t, fun w1 v d H1 S1 e1 r1 p1 t1 => ?_⟩
  split at t1
  · rename_i n
    obtain ⟨⟨h0, h1⟩, t1⟩ := t1
    exact ⟨n, dp_int p1, RgOk.of_le (by omega) h1 (by omega) h0, (q.mono e1).tup r1 (dp_rg 0 n) (by rw [rng_len]; omega) t1⟩
  · exact t1.elim
theorem qe_tupRgB (hc : X.calm = true) (hg : Gl X "tuple") (hm : X.mg "tuple" = none) (hg2 : Gl X "range") (hm2 : X.mg "range" = none) (ha : QE X a ta) (hb : QE X b tb)
    (na : starEach [a, b] X.env = (false, eval a X.env) :: starEach [b] X.env := by rfl) (nab : starEach [b] X.env = (false, eval b X.env) :: starEach [] X.env := by rfl) (hpb : (backTo pos2 (starEach [b] X.env)).any (·.1) = false := by rfl)
    (nb : starEach [.Call (.Name "range" p2) [a, b] [] pos2] X.env = (false, eval (.Call (.Name "range" p2) [a, b] [] pos2) X.env) :: starEach [] X.env := by rfl) :
    QE X (.Call (.Name "tuple" p) [.Call (.Name "range" p2) [a, b] [] pos2] [] pos) (tTupRgB ta tb) := L2.PE.imp (pe_tupRg hc hg hm (prg_2 hg2 hm2 ha hb na nab hpb) nb) fun σ H R ⟨w, env, S, Q, r0, en, t, q⟩ => by
  have hz : sizeLine = 16777216 := sizeLine_eq
  refine ⟨w, env, S, _, r0, en, t, fun w1 v d H1 S1 e1 r1 p1 t1 => ?_⟩
  refine ⟨w1, env, S1, _, r1, en.mono e1, t1, fun w2 u e H2 S2 e2 r2 p2 t2 => ?_⟩
  split at t2
  · rename_i m n
    obtain ⟨⟨h0, h1, h2, h3⟩, t2⟩ := t2
    exact ⟨m, n, dp_int (p1.mono e2), dp_int p2, RgOk.of_le h0 h3 h1 h2, ((q.mono e1).mono e2).tup r2 (dp_rg m n) (by rw [rng_len]; omega) t2⟩
  · exact t2.elim
end
end L3

/-! ### t[::-1] of a tuple, xs[::-1] of a list -/
namespace L3
open PySem PySem.Spec PyProof.Rows L2
section
variable {prog : Program} {w : World} {A : Around} {E : Value → Shared → Prop} {s : Shared}
theorem sliceApplied_rev {sl : Addr} {vl vu vs : Value} {n : Nat} {Q : Int × Int × Nat → Shared → Prop} (hs : s.heap.IsSliceOf sl vl vu vs) (pl : IsPart vl none) (pu : IsPart vu none) (ps : IsPart vs (some (-1)))
    (h : Q ((n : Int) - 1, -1, n) s) : wpAny (model prog w) A (Builtin.Slice.sliceApplied (.ref sl) (pure (n : Int))) Q E s := by
  obtain ⟨os, hos, hcs, hds⟩ := id hs
  unfold Builtin.Slice.sliceApplied Builtin.Slice.sliceFields
  refine wpAny_bind (wpAny_bind (wpAny_field hos hds (x := vl) rfl (wpAny_bind (wpAny_field hos hds (x := vu) rfl (wpAny_bind (wpAny_field hos hds (x := vs) rfl (wpAny_pure ?_)))))))
  refine wpAny_bind (HT.slicePart_ ps ?_)
  show wpAny _ _ (if ((-1 : Int) == 0) = true then _ else _) _ _ s
  rw [if_neg (by decide)]
  refine wpAny_bind (HT.slicePart_ pl (wpAny_bind (HT.slicePart_ pu (wpAny_bind (wpAny_pure ?_)))))
  show wpAny _ _ (match Builtin.Slice.sliceAdjust none none (-1) (n : Int) with | (lo, hi) => pure (lo, (-1 : Int), Builtin.Slice.slicePlaces lo hi (-1))) _ _ s
  have e1 : Builtin.Slice.sliceAdjust none none (-1) (n : Int) = ((n : Int) - 1, -1) := rfl
  rw [e1]
  have e2 : Builtin.Slice.slicePlaces ((n : Int) - 1) (-1) (-1) = n := by
    unfold Builtin.Slice.slicePlaces
    rw [if_neg (by decide)]
    by_cases hn : (n : Int) - 1 > -1
    · rw [if_pos hn, show (-(-1) : Int) = 1 by decide, Int.ediv_one]
      omega
    · rw [if_neg hn]
      omega
  show wpAny _ _ (pure ((n : Int) - 1, (-1 : Int), Builtin.Slice.slicePlaces ((n : Int) - 1) (-1) (-1))) _ _ s
  rw [e2]
  exact wpAny_pure h
theorem fm_congr {α β : Type} {f g : α → Option β} : ∀ {l : List α}, (∀ k ∈ l, f k = g k) → l.filterMap f = l.filterMap g
  | [], _ => rfl
  | x :: l, h => by
    rw [List.filterMap_cons, List.filterMap_cons, h x List.mem_cons_self, fm_congr fun k hk => h k (List.mem_cons_of_mem _ hk)]
theorem rev_pick {α : Type} (xs : Array α) : (List.range xs.size).filterMap (fun (k : Nat) => xs[(((xs.size : Int) - 1) + (k : Int) * (-1)).toNat]?) = xs.toList.reverse := by
  have h : (List.range xs.size).filterMap (fun (k : Nat) => xs[(((xs.size : Int) - 1) + (k : Int) * (-1)).toNat]?) = ((List.range xs.size).map fun k => xs.size - 1 - k).filterMap (xs[·]?) := by
    rw [List.filterMap_map]
    refine fm_congr fun k hk => ?_
    have hk' := List.mem_range.mp hk
    show xs[_]? = xs[xs.size - 1 - k]?
    have e : (((xs.size : Int) - 1) + (k : Int) * (-1)).toNat = xs.size - 1 - k := by omega
    rw [e]
  rw [h]
  have e : ((List.range xs.size).map fun k => xs.size - 1 - k) = (List.range xs.size).reverse := by
    refine List.ext_getElem (by simp) fun i h1 h2 => ?_
    simp
  rw [e, List.filterMap_reverse, PySem.W.krv_all]
theorem getItem_tuple_rev {t sl : Addr} {items : Array Value} {vl vu vs : Value} {Q : Value → Shared → Prop} (ht : IsTup s.heap t items) (hs : s.heap.IsSliceOf sl vl vu vs) (pl : IsPart vl none) (pu : IsPart vu none) (ps : IsPart vs (some (-1)))
    (h : Q (.ref s.heap.objs.size) { s with heap := s.heap.push { cls := .type "tuple", data := .seq items.toList.reverse.toArray } })
    (hsz : items.size ≤ sizeLine) : wpAny (model prog w) A (getItem (.ref t) (.ref sl)) Q E s := by
  have htake : sizeOk (.seq items.toList.reverse.toArray) := by
    show items.toList.reverse.toArray.size ≤ sizeLine
    rw [List.size_toArray, List.length_reverse, Array.length_toList]
    exact hsz
  obtain ⟨os, hos, hcs, hds⟩ := id hs
  have hTs : s.TypeIs (.ref sl) "slice" := ⟨os, hos, hcs⟩
  unfold getItem
  try with_reducible refine wpAny_holding ?_
  first | refine wpAny_bind (wpAny_pure ?_) | skip
  refine wpAny_bind (wpAny_sequenceKey ht.typeIs (by decide) ?_)
  refine wpAny_bind (wpAny_callSpecial?_slot (name := Str.ofString "__getitem__") ht.typeIs PyProof.Rows.slot_tuple_getitem
    (wpAny_call_entry PyProof.Rows.slot_tuple_getitem ht.typeIs PyProof.Rows.entry_tuple_getitem ?_ (PyProof.Rows.args_tuple_getitem _ _)))
  show wpAny _ _ (Builtin.Tuple.tupleItemsOf (.ref t) >>= _) _ _ s
  refine wpAny_bind (tupleItemsOf_ ht ?_)
  refine wpAny_bind (wpAny_typeOf hTs ?_)
  rw [if_pos (by decide)]
  refine wpAny_bind (sliceApplied_rev hs pl pu ps ?_)
  have hno : ¬ ((((items.size : Int) - 1) == 0 && (-1 : Int) == 1 && items.size == items.size) = true) := by simp
  show wpAny _ _ (if (((items.size : Int) - 1) == 0 && (-1 : Int) == 1 && items.size == items.size) = true then _ else _) _ _ s
  rw [if_neg hno, rev_pick]
  first
    | exact wpAny_bind (m := Builtin.Tuple.tupleExact _) (wpAny_newObj_type (wpAny_pure ⟨_, rfl, wpAny_pure h⟩) htake)
    | exact wpAny_bind (m := Builtin.Tuple.tupleExact _) (wpAny_newObj_type (wpAny_bind (wpAny_pure (wpAny_pure ⟨_, rfl, wpAny_pure h⟩))) htake)
    | exact wpAny_bind (wpAny_bind (m := Builtin.Tuple.tupleExact _) (wpAny_newObj_type (wpAny_pure (wpAny_pure ⟨_, rfl, wpAny_pure h⟩)) htake))
    | exact wpAny_bind (wpAny_bind (m := Builtin.Tuple.tupleExact _) (wpAny_newObj_type (wpAny_pure ⟨_, rfl, wpAny_pure h⟩) htake))
end
def tRevA (K : PySem.W.Frag) (te : TE) : TE := fun σ H Q => te σ H fun x H1 => ∃ a xs, x = .ref a ∧ ((SqL K H1 a xs ∧ ∀ p, H1 p = none → Q (.ref p) (upd H1 p (.lst xs.reverse))) ∨ (SqT K H1 a xs ∧ ∀ p, H1 p = none → Q (.ref p) (upd H1 p (.tup xs.reverse))))
theorem pe_revA {X : Cx} {e : Expr} {te : TE} {k : Nat} {p1 p2 p3 pos : Pos} (he : PE X e te) : PE X (.Subscript e (.Slice none none (some (.UnaryOp .USub (.Constant (.int 1) k p1) p2)) p3) pos) (tRevA X.K te) := by
  refine ⟨fun pins s σ H Q I h => ?_⟩
  refine Subscript_ (thn (he.run pins s σ H _ I h) fun v s1 ⟨x, H1, I1, r1, q1⟩ => ?_)
  obtain ⟨a, xs, ex, q⟩ := q1
  subst ex
  cases r1
  have hst : PO X (some (.UnaryOp .USub (.Constant (.int 1) k p1) p2)) (tPart (tUn (rU fun i => .int (-i)) (tC (.int 1)))) := po_some (pe_un un_neg pe_int)
  refine wpAny_Slice (thn (po_none.run pins s1 σ H1 (fun o H2 => o = none ∧ H2 = H1) I1 ⟨rfl, rfl⟩) fun vl s2 ⟨l, H2, I2, pl, el, e2⟩ => ?_)
  subst el e2
  refine thn (po_none.run pins s2 σ H2 (fun o H3 => o = none ∧ H3 = H2) I2 ⟨rfl, rfl⟩) fun vu s3 ⟨u, H3, I3, pu, eu, e3⟩ => ?_
  subst eu e3
  refine thn (hst.run pins s3 σ H3 (fun o H4 => o = some (-1) ∧ H4 = H3) I3 ⟨1, rfl, -1, rfl, rfl, rfl⟩) fun vs s4 ⟨o, H4, I4, ps, eo, e4⟩ => ?_
  subst eo e4
  have I5 : L2.Inv X pins σ H4 { s4 with heap := s4.heap.push { cls := .type "slice", data := .fields #[vl, vu, vs] } } := I4.kept (t' := s4.toks) fun b ob q => Heap.get?_push_of_some _ q
  rcases q with ⟨hx, q⟩ | ⟨hx, q⟩
  · obtain ⟨its, r, ht, hz⟩ := I5.list hx
    have hlen := r.length
    show wpAny (model X.prog X.w) X.A (subscriptTail e (.Slice none none (some (.UnaryOp .USub (.Constant (.int 1) k p1) p2)) p3) (.ref a) (.ref s4.heap.objs.size)) (EP X pins σ Q) X.xe { s4 with heap := s4.heap.push { cls := .type "slice", data := .fields #[vl, vu, vs] } }
    refine tail_any (ops := [.ref a, .ref s4.heap.objs.size]) ht.isList.typeIs (PySem.slot_list_getitem.lookup) ?_ (by with_unfolding_all rfl)
    refine wpAny_getItem_list_slice ht.isList (Heap.IsSliceOf.new _ vl vu vs) pl pu ps (by decide) ?_ (by rw [List.size_toArray]; omega)
    rw [PySem.W.krv_pick]
    refine ⟨.ref _, _, I5.laid (t' := s4.toks) (o := .lst xs.reverse) (fun b ob q => Heap.get?_push_of_some _ q) (Nat.le_refl _) ?_, rfl, q _ (I5.hok.fresh (Nat.le_refl _))⟩
    exact ⟨by rw [List.length_reverse]; exact hz, _, 0, r.reverse, Heap.get?_push_size _ rfl⟩
  · obtain ⟨its, r, ht, hz⟩ := I5.tuple hx
    have hlen := r.length
    show wpAny (model X.prog X.w) X.A (subscriptTail e (.Slice none none (some (.UnaryOp .USub (.Constant (.int 1) k p1) p2)) p3) (.ref a) (.ref s4.heap.objs.size)) (EP X pins σ Q) X.xe { s4 with heap := s4.heap.push { cls := .type "slice", data := .fields #[vl, vu, vs] } }
    refine tail_any (ops := [.ref a, .ref s4.heap.objs.size]) ht.typeIs (PyProof.Rows.slot_tuple_getitem.lookup) ?_ (by with_unfolding_all rfl)
    refine getItem_tuple_rev ht (Heap.IsSliceOf.new _ vl vu vs) pl pu ps ?_ (by rw [List.size_toArray]; omega)
    refine ⟨.ref _, _, I5.laid (t' := s4.toks) (o := .tup xs.reverse) (fun b ob q => Heap.get?_push_of_some _ q) (Nat.le_refl _) ?_, rfl, q _ (I5.hok.fresh (Nat.le_refl _))⟩
    exact ⟨by rw [List.length_reverse]; exact hz, _, r.reverse, IsTup.new _ _⟩
/-- x[::-1]: of a tuple; of a list (the new one changes no more) -/
def tRev3 (te : TE3) : TE3 := fun env S Q => te env S fun x S1 => match x with
  | .p (.tuple ds) => Q (.p (.tuple ds.reverse)) S1
  | d => match lst3 S1 d with
    | some ds => Q (.p (.list ds.reverse)) S1
    | none => False
theorem qe_rev {X : Cx} {e : Expr} {te : TE3} {k : Nat} {p1 p2 p3 pos : Pos} (he : QE X e te) : QE X (.Subscript e (.Slice none none (some (.UnaryOp .USub (.Constant (.int 1) k p1) p2)) p3) pos) (tRev3 te) :=
  (pe_revA he).imp fun σ H R ⟨w, env, S, Q, r0, en, t, q⟩ => by
    refine ⟨w, env, S, _, r0, en, t, fun w1 v d H1 S1 e1 r1 p1 t1 => ?_⟩
    split at t1
    · obtain ⟨a, xs, rfl, hq, ha⟩ := dp_tup_ref p1
      exact ⟨a, xs, rfl, .inr ⟨Same.sqT r1.sub hq, (q.mono e1).tup r1 (DpAll.reverse ha) (by rw [List.length_reverse]; exact len_tup r1 p1) t1⟩⟩
    · split at t1
      · rename_i ds h1
        obtain ⟨a, xs, rfl, hq, ha, hlen⟩ := lst3_low r1 p1 h1
        exact ⟨a, xs, rfl, .inl ⟨hq, (q.mono e1).lst r1 (DpAll.reverse ha) (by rw [List.length_reverse]; exact hlen) t1⟩⟩
      · exact t1.elim
end L3

namespace L3
open PySem PySem.Spec PyProof.Rows L2
/-! ### own dicts with int and str keys -/
def key3 : PyData → Option Key
  | .int i => some (.inl i)
  | .str x => some (.inr x)
  | _ => none
def valD (kvs : List (Key × D)) (k : Key) : Option D := (kvs.find? fun kv => decide (kv.1 = k)).map (·.2)
def putD (kvs : List (Key × D)) (k : Key) (v : D) : List (Key × D) :=
  if (kvs.any fun kv => decide (kv.1 = k)) = true then kvs.map (fun kv => if kv.1 = k then (kv.1, v) else kv) else kvs ++ [(k, v)]
def dik3 (S : S3) : D → Option (Nat × List (Key × D))
  | .loc n => match S[n]? with
    | some (some (.dik kvs)) => some (n, kvs)
    | _ => none
  | _ => none
abbrev KvR (K : PySem.W.Frag) (w : W3) (n : Nat) : Key × V → Key × D → Prop := fun p q => p.1 = q.1 ∧ RepD K w p.2 q.2 ∧ under n q.2
theorem key3_low {K : PySem.W.Frag} {w : W3} {v : V} {d : PyData} {k : Key} (p : RepD K w v (.p d)) (h : key3 d = some k) : v = kV k := by
  cases d <;> simp only [key3] at h <;> first | cases h | skip
  · exact dp_int p
  · exact dp_str p
theorem pv_val {K : PySem.W.Frag} {w : W3} {n : Nat} {k : Key} : ∀ {kxs : List (Key × V)} {kvs : List (Key × D)}, Paired (KvR K w n) kxs kvs → (valD kvs k = none ∧ valV kxs k = none) ∨ ∃ d v, valD kvs k = some d ∧ valV kxs k = some v ∧ RepD K w v d
  | _, _, .nil => .inl ⟨rfl, rfl⟩
  | _, _, .cons (a := p) (b := q) (l₁ := xs) (l₂ := ys) r rs => by
    by_cases e : q.1 = k
    · refine .inr ⟨q.2, p.2, ?_, ?_, r.2.1⟩
      · simp [valD, List.find?_cons, e]
      · simp [valV, List.find?_cons, r.1.trans e]
    · have e' : ¬ p.1 = k := fun z => e (r.1 ▸ z)
      have a : valD (q :: ys) k = valD ys k := by simp only [valD, List.find?_cons, e, decide_false]
      have b : valV (p :: xs) k = valV xs k := by simp only [valV, List.find?_cons, e', decide_false]
      rw [a, b]
      exact pv_val rs
theorem pv_any {K : PySem.W.Frag} {w : W3} {n : Nat} {k : Key} : ∀ {kxs : List (Key × V)} {kvs : List (Key × D)}, Paired (KvR K w n) kxs kvs → (kxs.any fun kv => decide (kv.1 = k)) = kvs.any fun kv => decide (kv.1 = k)
  | _, _, .nil => rfl
  | _, _, .cons r rs => by rw [List.any_cons, List.any_cons, r.1, pv_any rs]
theorem pv_map {K : PySem.W.Frag} {w : W3} {n : Nat} {k : Key} {v : V} {d : D} (hd : RepD K w v d ∧ under n d) : ∀ {kxs : List (Key × V)} {kvs : List (Key × D)}, Paired (KvR K w n) kxs kvs → Paired (KvR K w n) (kxs.map fun kv => if kv.1 = k then (kv.1, v) else kv) (kvs.map fun kv => if kv.1 = k then (kv.1, d) else kv)
  | _, _, .nil => .nil
  | _, _, .cons (a := p) (b := q) r rs => by
    rw [List.map_cons, List.map_cons]
    refine .cons ?_ (pv_map hd rs)
    by_cases e : q.1 = k
    · rw [if_pos e, if_pos (r.1.trans e)]
      exact ⟨r.1, hd⟩
    · rw [if_neg e, if_neg fun z => e (r.1 ▸ z)]
      exact r
theorem pv_app {K : PySem.W.Frag} {w : W3} {n : Nat} : ∀ {kxs lxs : List (Key × V)} {kvs lvs : List (Key × D)}, Paired (KvR K w n) kxs kvs → Paired (KvR K w n) lxs lvs → Paired (KvR K w n) (kxs ++ lxs) (kvs ++ lvs)
  | _, _, _, _, .nil, s => s
  | _, _, _, _, .cons r rs, s => .cons r (pv_app rs s)
theorem pv_put {K : PySem.W.Frag} {w : W3} {n : Nat} {k : Key} {v : V} {d : D} {kxs : List (Key × V)} {kvs : List (Key × D)} (p : Paired (KvR K w n) kxs kvs) (hd : RepD K w v d ∧ under n d) : Paired (KvR K w n) (putK kxs k v) (putD kvs k d) := by
  unfold putK putD
  rw [pv_any p]
  split
  · exact pv_map hd p
  · exact pv_app p (.cons ⟨rfl, hd⟩ .nil)
theorem pv_len {K : PySem.W.Frag} {w : W3} {n : Nat} : ∀ {kxs : List (Key × V)} {kvs : List (Key × D)}, Paired (KvR K w n) kxs kvs → kxs.length = kvs.length
  | _, _, .nil => rfl
  | _, _, .cons _ rs => congrArg (· + 1) (pv_len rs)
theorem dik3_low {K : PySem.W.Frag} {w : W3} {H : Hp} {S : S3} {v : V} {d : D} {n : Nat} {kvs : List (Key × D)} (r : Rel3 K w H S) (p : RepD K w v d) (h : dik3 S d = some (n, kvs)) :
    ∃ a kxs, v = .ref a ∧ d = .loc n ∧ w.al[n]? = some a ∧ S[n]? = some (some (.dik kvs)) ∧ H a = some (.dK kxs) ∧ Paired (KvR K w n) kxs kvs := by
  unfold dik3 at h
  split at h
  · split at h
    · rename_i es hs
      cases h
      obtain ⟨a, ha, rfl⟩ := p
      obtain ⟨_, u, hu, kxs, rfl, hp⟩ := r.live n a _ ha hs
      exact ⟨a, kxs, rfl, rfl, ha, hs, hu, hp⟩
    · cases h
  · cases h
/-- {} -/
def tDNew3 : TE3 := fun _ S Q => Q (.loc S.length) (S ++ [some (.dik [])])
/-- d[k] -/
def tDGet3 (to ti : TE3) : TE3 := fun env S Q => to env S fun o S1 => ti env S1 fun i S2 => match dik3 S2 o, i with
  | some (_, kvs), .p d => (match key3 d with
    | some k => (match valD kvs k with
      | some v => Q v S2
      | none => False)
    | none => False)
  | _, _ => False
/-- d[k] = e -/
def tDPut3 (te to ti : TE3) : TS3 := fun D env S => te env S fun v S1 => to env S1 fun o S2 => ti env S2 fun i S3 => match dik3 S3 o, i with
  | some (n, kvs), .p d => (match key3 d with
    | some k => (kvs.length < 16777216 ∧ under n v) ∧ D.nx env (S3.set n (some (.dik (putD kvs k v))))
    | none => False)
  | _, _ => False
section
variable {X : Cx} {o i e : Expr} {to ti te : TE3} {pos pos' : Pos}
theorem qe_dnew : QE X (.Dict [] [] pos) tDNew3 := L2.PE.imp pe_dnewK fun σ H R ⟨w, env, S, Q, r0, en, t, q⟩ => fun p hn => by
  obtain ⟨r2, e2⟩ := r0.push (u := .dK []) (o := .dik []) hn ⟨[], rfl, .nil⟩
  refine q _ (.ref p) (.loc S.length) _ _ e2 r2 ⟨p, ?_, rfl⟩ t
  show (w.al ++ [p])[S.length]? = some p
  rw [← r0.len, List.getElem?_append_right (Nat.le_refl _)]
  simp
theorem qe_dget (hu : X.A.units + 64 < cLine) (ho : QE X o to) (hi : QE X i ti) (hs : NoSl i) : QE X (.Subscript o i pos) (tDGet3 to ti) := L2.PE.imp (pe_dget (by omega) ho hi hs) fun σ H R ⟨w, env, S, Q, r0, en, t, q⟩ => by
  refine ⟨w, env, S, _, r0, en, t, fun w1 v d H1 S1 e1 r1 p1 t1 => ?_⟩
  refine ⟨w1, env, S1, _, r1, en.mono e1, t1, fun w2 u c H2 S2 e2 r2 p2 t2 => ?_⟩
  split at t2
  · rename_i n kvs dd ho'
    split at t2
    · rename_i k hk
      split at t2
      · rename_i x hx
        obtain ⟨a, kxs, rfl, rfl, ha, hs', hH, hp⟩ := dik3_low r2 (p1.mono e2) ho'
        have hy := key3_low p2 hk
        subst hy
        rcases pv_val (k := k) hp with ⟨h1, _⟩ | ⟨d', v', h1, h2, h3⟩
        · rw [hx] at h1; cases h1
        · rw [hx] at h1
          cases h1
          refine ⟨a, v', rfl, ?_, (q.mono (e1.trans e2)).old (d := x) r2 h3 t2⟩
          rw [← h2]
          exact DGet.k hH
      · exact t2.elim
    · exact t2.elim
  · exact t2.elim
theorem qs_dput (hu : X.A.units + 64 < cLine) (he : QE X e te) (ho : QE X o to) (hi : QE X i ti) (hs : swapsWith e (some (.Subscript o i pos')) pos.line X.env = pure false := by rfl) : QS X (.Assign [.Subscript o i pos'] e pos) (tDPut3 te to ti) :=
  L2.PS.imp (ps_dput (by omega) ho hi he hs) fun D σ H ⟨w, env, S, D3, r0, en, t, q⟩ => by
    have hz : sizeLine = 16777216 := sizeLine_eq
    refine ⟨w, env, S, _, r0, en, t, fun w1 v d H1 S1 e1 r1 p1 t1 => ?_⟩
    refine ⟨w1, env, S1, _, r1, en.mono e1, t1, fun w2 u c H2 S2 e2 r2 p2 t2 => ?_⟩
    refine ⟨w2, env, S2, _, r2, (en.mono e1).mono e2, t2, fun w3 z b H3 S3 e3 r3 p3 t3 => ?_⟩
    split at t3
    · rename_i n kvs dd ho'
      split at t3
      · rename_i k hk
        obtain ⟨a, kxs, rfl, rfl, ha, hs', hH, hp⟩ := dik3_low r3 (p2.mono e3) ho'
        have hy := key3_low p3 hk
        subst hy
        have hl := pv_len hp
        have p1' : RepD X.K w3 v d := (p1.mono e2).mono e3
        obtain ⟨⟨t31, t32⟩, t3⟩ := t3
        refine ⟨a, _, rfl, DPut.k hH (by omega), ?_⟩
        exact q.nx w3 σ _ env _ ((e1.trans e2).trans e3) (r3.put (o' := .dik (putD kvs k d)) ha hs' ⟨_, rfl, pv_put hp ⟨p1', t32⟩⟩) (((en.mono e1).mono e2).mono e3) t3
      · exact t3.elim
    · exact t3.elim
end
/-- {k: v, ..} -/
def keyD : D → Option Key
  | .p d => key3 d
  | _ => none
def keysD : List (D × D) → Option (List (Key × D))
  | [] => some []
  | (k, v) :: r => match keyD k, keysD r with
    | some k, some kvs => some ((k, v) :: kvs)
    | _, _ => none
def mergeD (kvs more : List (Key × D)) : List (Key × D) := more.foldl (fun acc kv => putD acc kv.1 kv.2) kvs
def tPairs3 : List (TE3 × TE3) → E3 → S3 → (List (D × D) → S3 → Prop) → Prop
  | [], _, S, Q => Q [] S
  | (tk, tv) :: r, env, S, Q => tk env S fun x S1 => tv env S1 fun y S2 => tPairs3 r env S2 fun ps S3 => Q ((x, y) :: ps) S3
def tDLit3 (trs : List (TE3 × TE3)) : TE3 := fun env S Q => tPairs3 trs env S fun ps S1 => match keysD ps with
  | some kvs => kvs.length ≤ 15 ∧ Q (.loc S1.length) (S1 ++ [some (.dik (mergeD [] kvs))])
  | none => False
def lowTrs (K : PySem.W.Frag) (trs : List (TE3 × TE3)) : List (TE × TE) := trs.map fun p => (low K p.1, low K p.2)
def PrR (K : PySem.W.Frag) (w : W3) : List (V × V) → List (D × D) → Prop := Paired fun p q => RepD K w p.1 q.1 ∧ RepD K w p.2 q.2
theorem PrR.mono {K : PySem.W.Frag} {w w' : W3} (e : Ex3 w w') {ps : List (V × V)} {qs : List (D × D)} (h : PrR K w ps qs) : PrR K w' ps qs := Paired.mapP h fun p q z => ⟨z.1.mono e, z.2.mono e⟩
theorem pairs_low {K : PySem.W.Frag} {σ : L2.St} : ∀ (trs : List (TE3 × TE3)) (w : W3) (env : E3) (S : S3) (H : Hp) (Q : List (D × D) → S3 → Prop) (R : List (V × V) → Hp → Prop), Rel3 K w H S → EnvR K w σ env → tPairs3 trs env S Q →
    (∀ w' ps qs H' S', Ex3 w w' → Rel3 K w' H' S' → PrR K w' ps qs → Q qs S' → R ps H') → tPairs (lowTrs K trs) σ H R
  | [], w, env, S, H, Q, R, r, en, t, h => h w [] [] H S (Ex3.refl _) r .nil t
  | (tk, tv) :: trs, w, env, S, H, Q, R, r, en, t, h => by
    refine ⟨w, env, S, _, r, en, t, fun w1 v d H1 S1 e1 r1 p1 t1 => ?_⟩
    refine ⟨w1, env, S1, _, r1, en.mono e1, t1, fun w2 u c H2 S2 e2 r2 p2 t2 => ?_⟩
    refine pairs_low trs w2 env S2 H2 _ _ r2 ((en.mono e1).mono e2) t2 fun w3 ps qs H3 S3 e3 r3 p3 t3 => ?_
    exact h w3 _ _ H3 S3 ((e1.trans e2).trans e3) r3 (.cons ⟨(p1.mono e2).mono e3, p2.mono e3⟩ p3) t3
theorem RepD.under {K : PySem.W.Frag} {w : W3} {v : V} {d : D} {H : Hp} {S : S3} (r : Rel3 K w H S) (h : RepD K w v d) : under S.length d := by
  cases d with
  | p d => trivial
  | exc c => trivial
  | loc m =>
    obtain ⟨a, h1, _⟩ := h
    show m < _
    rw [← r.len]
    exact (List.getElem?_eq_some_iff.mp h1).1
theorem keys_low {K : PySem.W.Frag} {w : W3} {H : Hp} {S : S3} (r : Rel3 K w H S) : ∀ {ps : List (V × V)} {qs : List (D × D)} {kvs : List (Key × D)}, PrR K w ps qs → keysD qs = some kvs → ∃ kxs : List (Key × V), ps = kxs.map (fun kv => (kV kv.1, kv.2)) ∧ Paired (KvR K w S.length) kxs kvs
  | _, _, _, .nil, h => by cases h; exact ⟨[], rfl, .nil⟩
  | _, _, _, .cons (a := p) (b := q) z zs, h => by
    obtain ⟨k, v⟩ := q
    unfold keysD at h
    split at h
    · rename_i k' kvs' h1 h2
      cases h
      obtain ⟨kxs, rfl, hp⟩ := keys_low r zs h2
      have hk : p.1 = kV k' := by
        unfold keyD at h1
        split at h1
        · exact key3_low z.1 h1
        · cases h1
      refine ⟨(k', p.2) :: kxs, ?_, .cons ⟨rfl, z.2, z.2.under r⟩ hp⟩
      rw [List.map_cons, ← hk]
    · cases h
theorem pv_merge {K : PySem.W.Frag} {w : W3} {n : Nat} : ∀ {more : List (Key × D)} {mxs kxs : List (Key × V)} {kvs : List (Key × D)}, Paired (KvR K w n) mxs more → Paired (KvR K w n) kxs kvs → Paired (KvR K w n) (mergeK kxs mxs) (mergeD kvs more)
  | _, _, _, _, .nil, s => s
  | _, _, _, _, .cons (a := p) (b := q) r rs, s => by
    have := pv_put (k := q.1) s r.2
    show Paired (KvR K w n) (mergeK (putK _ p.1 p.2) _) (mergeD (putD _ q.1 q.2) _)
    rw [show p.1 = q.1 from r.1]
    exact pv_merge rs this
abbrev QPs (X : Cx) (pos : Pos) (keys : List (Option Expr)) (values : List Expr) (trs : List (TE3 × TE3)) : Prop := PPs X pos keys values (lowTrs X.K trs)
section
variable {X : Cx} {pos : Pos}
theorem qps_nil : QPs X pos [] [] [] := pps_nil
theorem qps_cons {k v : Expr} {ks : List (Option Expr)} {vs : List Expr} {tk tv : TE3} {trs : List (TE3 × TE3)} (hk : QE X k tk) (hv : QE X v tv) (hr : QPs X pos ks vs trs) : QPs X pos (some k :: ks) (v :: vs) ((tk, tv) :: trs) := pps_cons hk hv hr
theorem qe_dlit {keys : List (Option Expr)} {values : List Expr} {trs : List (TE3 × TE3)} (h : QPs X pos keys values trs) (hall : keys.all (·.isSome) = true := by rfl) (hl : keys.length = values.length := by rfl) (h0 : keys ≠ [] := by decide)
    (h15 : keys.length ≤ 15 := by decide) : QE X (.Dict keys values pos) (tDLit3 trs) := L2.PE.imp (pe_disp h hall hl h0 h15) fun σ H R ⟨w, env, S, Q, r0, en, t, q⟩ => fun p hn => by
  have r1 := r0.pinNew (u := .dK []) hn
  have e01 : Ex0 w ⟨w.al, w.h, (p, .dK []) :: w.pn⟩ := ⟨⟨[], by simp⟩, Same.refl _⟩
  refine pairs_low trs _ env S _ _ _ r1 (en.mono0 e01) t fun w2 ps qs H2 S2 e2 r2 p2 t2 => ?_
  obtain ⟨al2, h2, pn2⟩ := w2
  have hpn : pn2 = (p, .dK []) :: w.pn := e2.pn
  subst hpn
  refine ⟨(r2.pin p _ List.mem_cons_self).1, ?_⟩
  split at t2
  · rename_i kvs hk
    obtain ⟨kxs, rfl, hp⟩ := keys_low r2 p2 hk
    have hln := pv_len hp
    refine ⟨kxs, rfl, by omega, ?_⟩
    obtain ⟨r3, hdn, hup⟩ := r2.unpin
    have hp3 : Paired (KvR X.K ⟨al2, h2, w.pn⟩ S2.length) (mergeK [] kxs) (mergeD [] kvs) := by
      have := pv_merge hp (kxs := []) (kvs := []) .nil
      exact Paired.mapP this fun a b z => ⟨z.1, RepD.mono0 (w := ⟨al2, h2, (p, .dK []) :: w.pn⟩) ⟨⟨[], by simp⟩, Same.refl _⟩ z.2.1, z.2.2⟩
    obtain ⟨r4, e4⟩ := r3.push (a := p) (u := .dK (mergeK [] kxs)) (o := .dik (mergeD [] kvs)) hdn ⟨_, rfl, hp3⟩
    have hH : upd H2 p (.dK (mergeK [] kxs)) = upd (del H2 p) p (.dK (mergeK [] kxs)) := by
      funext b
      by_cases hb : b = p
      · subst hb
        rw [upd_same, upd_same]
      · rw [upd_ne hb, upd_ne hb]
        unfold del
        rw [if_neg hb]
    rw [hH]
    refine q _ (.ref p) (.loc S2.length) _ _ (Ex3.trans (w' := ⟨al2, h2, w.pn⟩) ⟨⟨e2.al, e2.h⟩, rfl⟩ e4) r4 ⟨p, ?_, rfl⟩ t2.2
    show (al2 ++ [p])[S2.length]? = some p
    have := r3.len
    rw [← show al2.length = S2.length from this, List.getElem?_append_right (Nat.le_refl _)]
    simp
  · exact t2.elim
end
section
variable {X : Cx} {o i e : Expr} {to ti te : TE3} {pos pos' : Pos}
/-- k in d, k not in d -/
def tDIn3 (neg : Bool) (ti to : TE3) : TE3 := fun env S Q => ti env S fun i S1 => to env S1 fun o S2 => match dik3 S2 o, i with
  | some (_, kvs), .p d => (match key3 d with
    | some k => Q (.p (.bool (if neg then !(valD kvs k).isSome else (valD kvs k).isSome))) S2
    | none => False)
  | _, _ => False
theorem din_low {K : PySem.W.Frag} {neg : Bool} {σ : L2.St} {H : Hp} {R : VK} (h : low K (tDIn3 neg ti to) σ H R) : low K ti σ H fun y H1 => low K to σ H1 fun x H2 => ∃ a o, x = .ref a ∧ DGet H2 a y o ∧ R (.bl (if neg then !o.isSome else o.isSome)) H2 := by
  obtain ⟨w, env, S, Q, r0, en, t, q⟩ := h
  refine ⟨w, env, S, _, r0, en, t, fun w1 v d H1 S1 e1 r1 p1 t1 => ?_⟩
  refine ⟨w1, env, S1, _, r1, en.mono e1, t1, fun w2 u c H2 S2 e2 r2 p2 t2 => ?_⟩
  split at t2
  · rename_i n kvs dd ho'
    split at t2
    · rename_i k hk
      obtain ⟨a, kxs, rfl, rfl, ha, hs', hH, hp⟩ := dik3_low r2 p2 ho'
      have hy := key3_low (p1.mono e2) hk
      subst hy
      refine ⟨a, _, rfl, DGet.k hH, ?_⟩
      have e : (valV kxs k).isSome = (valD kvs k).isSome := by
        rcases pv_val (k := k) hp with ⟨h1, h2⟩ | ⟨d', v', h1, h2, _⟩ <;> rw [h1, h2] <;> rfl
      rw [e]
      exact (q.mono (e1.trans e2)).bl r2 t2
    · exact t2.elim
  · exact t2.elim
theorem qe_din (hu : X.A.units + 64 < cLine) (hi : QE X i ti) (ho : QE X o to) (h1 : behindInMarks .In o = false := by rfl) : QE X (.Compare i [.In] [o] pos) (tDIn3 false ti to) :=
  L2.PE.imp (pe_cmp (pc_din (by omega) hi ho) h1) fun σ H R h => din_low h
theorem qe_dnotin (hu : X.A.units + 64 < cLine) (hi : QE X i ti) (ho : QE X o to) (h1 : behindInMarks .NotIn o = false := by rfl) : QE X (.Compare i [.NotIn] [o] pos) (tDIn3 true ti to) :=
  L2.PE.imp (pe_cmp (pc_dnotin (by omega) hi ho) h1) fun σ H R h => din_low h
theorem qt_din (hu : X.A.units + 64 < cLine) (hi : QE X i ti) (ho : QE X o to) (h1 : behindInMarks .In o = false := by rfl) : QT X (.Compare i [.In] [o] pos) (tTest3 (tDIn3 false ti to)) :=
  L2.PT.imp (pt_cmp (pc_din (by omega) hi ho) h1) fun σ H R h => test_low (t := tDIn3 false ti to) (t2 := fun σ H R' => low X.K (tDIn3 false ti to) σ H R') (fun R' q => q) h |> fun z => din_low z
theorem qt_dnotin (hu : X.A.units + 64 < cLine) (hi : QE X i ti) (ho : QE X o to) (h1 : behindInMarks .NotIn o = false := by rfl) : QT X (.Compare i [.NotIn] [o] pos) (tTest3 (tDIn3 true ti to)) :=
  L2.PT.imp (pt_cmp (pc_dnotin (by omega) hi ho) h1) fun σ H R h => test_low (t := tDIn3 true ti to) (t2 := fun σ H R' => low X.K (tDIn3 true ti to) σ H R') (fun R' q => q) h |> fun z => din_low z
/-- len of a text, a list, a tuple, a dict of the store -/
def rLenA3 : C3 := fun ds S Q => match ds with
  | [.p (.str z)] => z.length ≤ 16777216 ∧ Q (.p (.int z.length)) S
  | [d] => match dik3 S d with
    | some (_, kvs) => Q (.p (.int kvs.length)) S
    | none => match seq3 S d with
      | some es => Q (.p (.int es.length)) S
      | none => False
  | _ => False
theorem cq_lenA : CQ X (.builtin "len") rLenA3 := CallR.imp (CallR.or (r := lowC X.K rLen3) cq_len call_lenD) fun xs H R ⟨w, S, ds, Q, r0, p1, t, q⟩ => by
  unfold rLenA3 at t
  split at t
  · exact .inl ⟨w, S, _, Q, r0, p1, t, q⟩
  · rename_i d hd
    split at t
    · rename_i n kvs ho'
      obtain ⟨v, rfl, p⟩ := rds1 p1
      obtain ⟨a, kxs, rfl, rfl, ha, hs', hH, hp⟩ := dik3_low r0 p ho'
      refine .inr ⟨a, kxs, rfl, hH, ?_⟩
      rw [pv_len hp]
      exact q.int r0 t
    · refine .inl ⟨w, S, _, Q, r0, p1, ?_, q⟩
      unfold rLen3
      split
      · rename_i z hz
        cases hz
        exact absurd rfl (hd z)
      · rename_i d' _ hz
        cases hz
        exact t
      · rename_i h1 h2
        exact absurd rfl (h2 _)
  · exact t.elim
end
end L3

namespace L3
open PySem PySem.Spec PyProof.Rows L2
/-! ### [..] * n -/
def tRepN3 (ta : TN3) (tb : TE3) : TN3 := fun env S Q => ta env S fun ds S1 => tb env S1 fun k S2 => match k with
  | .p (.int k) => (-4611686018427387904 ≤ k ∧ k ≤ 16777216 ∧ ds.length * k.toNat ≤ 16777216) ∧ Q (rep3 ds k) S2
  | _ => False
section
variable {X : Cx} {a b : Expr} {ta : TN3} {tb : TE3} {pos : Pos}
theorem qn_rep (ha : QN X a ta) (hb : QE X b tb) : QN X (.BinOp a .Mult b pos) (tRepN3 ta tb) := L2.PE.imp (pe_op op_rep ha hb) fun σ H R ⟨w, env, S, Q, r0, en, t, q⟩ => by
  have hz : sizeLine = 16777216 := sizeLine_eq
  refine ⟨w, env, S, _, r0, en, t, fun w1 p xs ds H1 S1 e1 r1 hn ha' hl t1 => ?_⟩
  have hxl := DpAll.length ha'
  obtain ⟨r2, e2⟩ := r1.frz (u := .lst xs) hn (by show xs.length ≤ _; rw [hxl]; exact hl)
  refine ⟨_, env, S1, _, r2, (en.mono e1).mono e2, t1, fun w3 v d H3 S3 e3 r3 p3 t3 => ?_⟩
  split at t3
  · rename_i k
    obtain ⟨⟨h1, h2, h3⟩, t3⟩ := t3
    have hp : H3 p = some (.lst xs) := r3.sub _ _ (e3.h _ _ (upd_same (H := w1.h) (a := p)))
    refine ⟨p, k, xs, rfl, dp_int p3, hp, by omega, by omega, by rw [hxl]; omega, fun p2 hn2 => ?_⟩
    exact q w3 p2 _ (rep3 ds k) H3 S3 ((e1.trans e2).trans e3) r3 hn2 (DpAll.flatten (dpAll_mono (e2.h.trans e3.h) _ _ ha') k.toNat) (by rw [rep3_len]; omega) t3
  · exact t3.elim
end
/-! ### == of lists of the store -/
def data3 (S : S3) : D → Option PyData
  | .p d => some d
  | .loc n => match S[n]? with
    | some (some (.lst ds)) => some (.list ds)
    | _ => none
  | .exc _ _ => none
theorem data3_low {K : PySem.W.Frag} {w : W3} {H : Hp} {S : S3} {v : V} {d : D} {x : PyData} (r : Rel3 K w H S) (p : RepD K w v d) (h : data3 S d = some x) : Dp K H v x := by
  unfold data3 at h
  split at h
  · cases h
    exact dp_mono r.sub _ _ p
  · split at h
    · rename_i es hs
      cases h
      obtain ⟨a, ha, rfl⟩ := p
      obtain ⟨_, u, hu, xs, rfl, hd, hz⟩ := r.live _ a _ ha hs
      exact .lst (.inl (.inl hu)) (dpAll_mono r.sub _ _ hd)
    · cases h
  · cases h
def rEqL3 : R3 := fun x y S Q => match data3 S x, data3 S y with
  | some d, some e => (SeqAt.shaped d = true ∧ SeqAt.shaped e = true) ∧ Q (.p (.bool (PyData.eqv d e))) S
  | _, _ => False
def rNeL3 : R3 := fun x y S Q => match data3 S x, data3 S y with
  | some d, some e => (SeqAt.shaped d = true ∧ SeqAt.shaped e = true) ∧ Q (.p (.bool (!PyData.eqv d e))) S
  | _, _ => False
theorem oq_eqL {X : Cx} (hu : X.A.units + 64 < cLine) : OQ X (compareOp .Eq) rEqL3 := opq (op_eqD hu) fun w S d e x y H Q R r0 p1 p2 t q => by
  unfold rEqL3 at t
  split at t
  · rename_i d' e' h1 h2
    exact ⟨_, _, (data3_low r0 p1 h1).sh t.1.1, (data3_low r0 p2 h2).sh t.1.2, t.1.1, t.1.2, q.bl r0 t.2⟩
  · exact t.elim
theorem oq_neL {X : Cx} (hu : X.A.units + 64 < cLine) : OQ X (compareOp .NotEq) rNeL3 := opq (op_neD hu) fun w S d e x y H Q R r0 p1 p2 t q => by
  unfold rNeL3 at t
  split at t
  · rename_i d' e' h1 h2
    exact ⟨_, _, (data3_low r0 p1 h1).sh t.1.1, (data3_low r0 p2 h2).sh t.1.2, t.1.1, t.1.2, q.bl r0 t.2⟩
  · exact t.elim
/-! ### sorted(set(xs)), xs tuples of ints -/

def tups? : PyData → Option (List Int)
  | .tuple ds => allP int? ds
  | _ => none
theorem tups_inv {d : PyData} {ns : List Int} (h : tups? d = some ns) : d = tupI ns := by
  cases d <;> simp only [tups?] at h <;> first | cases h | skip
  rw [allP_int h]
  rfl
theorem tups_of (ns : List Int) : tups? (tupI ns) = some ns := allP_ints ns
theorem allP_tups : ∀ kss : List (List Int), allP tups? (kss.map tupI) = some kss
  | [] => rfl
  | k :: kss => by
    rw [List.map_cons]
    unfold allP
    rw [tups_of, allP_tups kss]
def tSortSet3 (te : TE3) : TN3 := fun env S Q => te env S fun x S1 => match lst3 S1 x with
  | some ds => match allP tups? ds with
    | some kss => (kss.length < 64 ∧ ∃ (d : Nat) (B : Int), 1 ≤ d ∧ ∀ k ∈ kss, k.length = d ∧ TS.Bd B k) ∧
        ∀ (L : List (List Int)) (B : Int), (∀ k ∈ kss, TS.Bd B k) → (∀ k, k ∈ L ↔ k ∈ kss) → L.Nodup → L.length ≤ kss.length → L.Pairwise (fun q r => TS.code B q ≤ TS.code B r) → Q (L.map tupI) S1
    | none => False
  | none => False
theorem tups_low {K : PySem.W.Frag} {h : Hp} : ∀ {ds : List PyData} {kss : List (List Int)} {xs : List V}, DpAll K h xs ds → allP tups? ds = some kss → ∃ ks : List (Addr × List Int), xs = ks.map (fun p => V.ref p.1) ∧ kss = ks.map (·.2) ∧ ∀ p ∈ ks, SqT K h p.1 (p.2.map V.int)
  | _, _, _, .nil, e => by cases e; exact ⟨[], rfl, rfl, fun p hp => nomatch hp⟩
  | d :: ds, _, _, .cons r rs, e => by
    unfold allP at e
    split at e
    · rename_i k ks' h1 h2
      cases e
      obtain ⟨ks, rfl, rfl, hk⟩ := tups_low rs h2
      rw [tups_inv h1] at r
      obtain ⟨a, ys, rfl, hq, ha⟩ := dp_tup_ref r
      rw [dp_ints ha] at hq
      refine ⟨(a, k) :: ks, rfl, rfl, fun p hp => ?_⟩
      rcases List.mem_cons.mp hp with rfl | hp
      · exact hq
      · exact hk p hp
    · cases e
theorem tups_up {K : PySem.W.Frag} {h : Hp} : ∀ (L : List (Addr × List Int)), (∀ p ∈ L, SqT K h p.1 (p.2.map V.int)) → DpAll K h (L.map fun p => V.ref p.1) ((L.map (·.2)).map tupI)
  | [], _ => .nil
  | p :: L, hk => .cons (.tup (hk p List.mem_cons_self) (dpAll_ints p.2)) (tups_up L fun q hq => hk q (List.mem_cons_of_mem _ hq))
theorem sqT_up {K : PySem.W.Frag} {H : Hp} {a b : Addr} {u : HO} {xs : List V} (hn : H a = none) (h : SqT K H b xs) : SqT K (upd H a u) b xs := Same.sqT (fun c o e => by rw [upd_ne (ne_of_none e hn)]; exact e) h
theorem nodup_len3 {α : Type} [DecidableEq α] : ∀ (l D : List α), l.Nodup → (∀ x ∈ l, x ∈ D) → l.length ≤ D.length
  | [], _, _, _ => Nat.zero_le _
  | x :: l, D, h, hs => by
    obtain ⟨h1, h2⟩ := List.nodup_cons.mp h
    have := nodup_len3 l (D.erase x) h2 fun y hy => (List.mem_erase_of_ne (fun z => h1 (by rw [← z]; exact hy))).mpr (hs y (List.mem_cons_of_mem _ hy))
    rw [List.length_erase_of_mem (hs x List.mem_cons_self)] at this
    have := List.length_pos_of_mem (hs x List.mem_cons_self)
    rw [List.length_cons]
    omega
theorem qn_sortSet {X : Cx} {e : Expr} {te : TE3} {p q pos pos' : Pos} (hc : X.calm = true) (hu : X.A.units + 64 < cLine) (hg : Gl X "sorted") (hm : X.mg "sorted" = none) (hg2 : Gl X "set") (hm2 : X.mg "set" = none) (ha : QE X e te)
    (hs : starEach [e] X.env = (false, eval e X.env) :: starEach [] X.env := by rfl) (hpl : (backTo pos' (starEach [] X.env)).any (·.1) = false := by rfl)
    (hs2 : starEach [.Call (.Name "set" q) [e] [] pos'] X.env = (false, eval (.Call (.Name "set" q) [e] [] pos') X.env) :: starEach [] X.env := by rfl) (hpl2 : (backTo pos (starEach [] X.env)).any (·.1) = false := by rfl) :
    QN X (.Call (.Name "sorted" p) [.Call (.Name "set" q) [e] [] pos'] [] pos) (tSortSet3 te) :=
  L2.PE.imp (pe_callB (cr_sortedT hc) hg hm (by decide +kernel) (pa_cons (pe_callTy (cr_setOfT hc hu) hg2 hm2 (by decide +kernel) (pa_cons ha pa_nil hs) (by decide) (by decide) hs hpl) pa_nil hs2) (by decide) (by decide) hs2 hpl2) fun σ H R ⟨w, env, S, Q, r0, en, t, q⟩ => by
    refine ⟨w, env, S, _, r0, en, t, fun w1 v d H1 S1 e1 r1 p1 t1 => ?_⟩
    split at t1
    rotate_left
    · exact t1.elim
    rename_i ds h1
    split at t1
    rotate_left
    · exact t1.elim
    rename_i kss h2
    obtain ⟨⟨c1, dd, B, c2, c3⟩, t1⟩ := t1
    obtain ⟨a, xs, rfl, hq, hd, hz⟩ := lst3_low r1 p1 h1
    obtain ⟨ks, rfl, rfl, hk⟩ := tups_low hd h2
    have hzl : sizeLine = 16777216 := sizeLine_eq
    rw [List.length_map] at c1
    refine ⟨a, ks, rfl, hq, fun p hp => Same.sqT r1.sub (hk p hp), c1, fun b L hn g1 g2 => ?_⟩
    obtain ⟨r2, e2⟩ := r1.frz (u := SetTO X.prog X.w b L) hn trivial
    refine ⟨b, L, dd, B, rfl, upd_same, fun p hp => sqT_up hn (Same.sqT r1.sub (hk p (g1 p hp))), c2, fun p hp => c3 _ (List.mem_map_of_mem (f := (·.2)) (g1 p hp)), fun L' p' pm nd few pw hn2 => ?_⟩
    have hmem : ∀ p ∈ L', p ∈ ks := fun p hp => g1 p (pm.mem_iff.mp hp)
    have iff : ∀ k, k ∈ L'.map (·.2) ↔ k ∈ ks.map (·.2) := fun k => ⟨fun h => by
      obtain ⟨p, hp, rfl⟩ := List.mem_map.mp h
      exact List.mem_map_of_mem (f := (·.2)) (hmem p hp), fun h => by
      obtain ⟨p, hp, rfl⟩ := List.mem_map.mp h
      obtain ⟨p', hp', e'⟩ := List.mem_map.mp (g2 p hp)
      rw [← e']
      exact List.mem_map_of_mem (f := (·.2)) (pm.mem_iff.mpr hp')⟩
    have hle : (L'.map (·.2)).length ≤ (ks.map (·.2)).length := nodup_len3 _ _ nd fun k hk => (iff k).mp hk
    refine q _ p' _ ((L'.map (·.2)).map tupI) _ S1 (e1.trans e2) r2 hn2 (tups_up L' fun p hp => sqT_up (r1.sub.free hn) (hk p (hmem p hp))) ?_ (t1 _ B (fun k hk => (c3 k hk).2) iff nd hle ?_)
    · simp only [List.length_map]
      omega
    · rw [List.pairwise_map]
      exact pw
end L3
namespace L3
open PySem PySem.Spec PyProof.Rows L2
/-! ### x in a tuple or a list of data -/
section
variable {X : Cx}
theorem op_inT (hu : X.A.units + 65 < cLine) : OpR X (compareOp .In) (fun x y H Q => ∃ d ds, Dp X.K H x d ∧ Dp X.K H y (.tuple ds) ∧ SeqAt.shaped d = true ∧ SeqAt.shaped (.tuple ds) = true ∧ Q (.bl (ds.any fun z => PyData.eqv z d)) H) := by
  intro pins s σ H x y v u Q I rx ry h
  obtain ⟨d, ds, hd, he, sd, se, q⟩ := h
  obtain ⟨as, r1⟩ := Dp.reads I d x v hd rx
  obtain ⟨bs, r2⟩ := Dp.reads I (.tuple ds) y u he ry
  exact SeqAt.in_tuple_reads r2 r1 (SeqAt.canLay_of_shaped se) (SeqAt.canLay_of_shaped sd) (room_in_shaped sd hu) ⟨.bl _, H, I, rfl, q⟩
theorem op_notInT (hu : X.A.units + 65 < cLine) : OpR X (compareOp .NotIn) (fun x y H Q => ∃ d ds, Dp X.K H x d ∧ Dp X.K H y (.tuple ds) ∧ SeqAt.shaped d = true ∧ SeqAt.shaped (.tuple ds) = true ∧ Q (.bl (!ds.any fun z => PyData.eqv z d)) H) := by
  intro pins s σ H x y v u Q I rx ry h
  obtain ⟨d, ds, hd, he, sd, se, q⟩ := h
  obtain ⟨as, r1⟩ := Dp.reads I d x v hd rx
  obtain ⟨bs, r2⟩ := Dp.reads I (.tuple ds) y u he ry
  exact SeqAt.notIn_tuple_reads r2 r1 (SeqAt.canLay_of_shaped se) (SeqAt.canLay_of_shaped sd) (room_in_shaped sd hu) ⟨.bl _, H, I, rfl, q⟩
def rInA3 (neg : Bool) : R3 := fun x y S Q => match x, y with
  | .p d, .p (.tuple ds) => (SeqAt.shaped d = true ∧ SeqAt.shaped (.tuple ds) = true) ∧ Q (.p (.bool (if neg then !ds.any fun z => PyData.eqv z d else ds.any fun z => PyData.eqv z d))) S
  | x, y => rIn3 neg x y S Q
theorem oq_inA (hu : X.A.units + 65 < cLine) : OQ X (compareOp .In) (rInA3 false) := OpR.imp (OpR.or (opq (r := fun x y S Q => ∃ d ds, x = .p d ∧ y = .p (.tuple ds) ∧ (SeqAt.shaped d = true ∧ SeqAt.shaped (.tuple ds) = true) ∧ Q (.p (.bool (ds.any fun z => PyData.eqv z d))) S) (op_inT hu) fun w S d e x y H Q R r0 p1 p2 t q => by
    obtain ⟨d', ds, rfl, rfl, t1, t2⟩ := t
    exact ⟨_, ds, dp_mono r0.sub _ _ p1, dp_mono r0.sub _ _ p2, t1.1, t1.2, q.bl r0 t2⟩) (oq_in hu)) fun x y H R ⟨w, S, d, e, Q, r0, p1, p2, t, q⟩ => by
  unfold rInA3 at t
  split at t
  · exact .inl ⟨w, S, _, _, Q, r0, p1, p2, ⟨_, _, rfl, rfl, t⟩, q⟩
  · exact .inr ⟨w, S, _, _, Q, r0, p1, p2, t, q⟩
theorem oq_notinA (hu : X.A.units + 65 < cLine) : OQ X (compareOp .NotIn) (rInA3 true) := OpR.imp (OpR.or (opq (r := fun x y S Q => ∃ d ds, x = .p d ∧ y = .p (.tuple ds) ∧ (SeqAt.shaped d = true ∧ SeqAt.shaped (.tuple ds) = true) ∧ Q (.p (.bool (!ds.any fun z => PyData.eqv z d))) S) (op_notInT hu) fun w S d e x y H Q R r0 p1 p2 t q => by
    obtain ⟨d', ds, rfl, rfl, t1, t2⟩ := t
    exact ⟨_, ds, dp_mono r0.sub _ _ p1, dp_mono r0.sub _ _ p2, t1.1, t1.2, q.bl r0 t2⟩) (oq_notin hu)) fun x y H R ⟨w, S, d, e, Q, r0, p1, p2, t, q⟩ => by
  unfold rInA3 at t
  split at t
  · exact .inl ⟨w, S, _, _, Q, r0, p1, p2, ⟨_, _, rfl, rfl, t⟩, q⟩
  · exact .inr ⟨w, S, _, _, Q, r0, p1, p2, t, q⟩
end
end L3
theorem L2.Room.un65 {k : Nat} {A : PySem.Around} (r : L2.Room k A) : A.units + 65 < PySem.cLine := by
  have := r.un
  omega

/-! ### enumerate(tuple), enumerate(reversed(tuple)) -/
namespace L3
open PySem PySem.Spec PyProof.Rows L2
open Sem (wp) in
theorem meets_enumG {v : Value} {hp' : Heap → Heap} {it : Heap → Addr} {H : Heap → Prop}
    (B : ∀ (prog : Program) (w : World) (A : Around) (E : Value → Shared → Prop) (s : Shared) (Q : Value → Shared → Prop), H s.heap → Q (.ref (it s.heap)) { s with heap := hp' s.heap } → wpAny (model prog w) A (pyIter v) Q E s) :
    Meets (Builtin.«enumerate.__new__» ⟨[.type "enumerate", v], []⟩) (fun _ R s => H s.heap ∧
      R (.ok (.ret (.ref (hp' s.heap).objs.size))) { s with heap := (hp' s.heap).push { cls := .type "enumerate", data := .fields #[.none, .bool false, .ref (it s.heap), rawInt 0, .none, .none] } }) :=
  .of_wp fun prog w A R s h => by
    obtain ⟨hp, g, d, tk, os⟩ := s
    obtain ⟨h1, h⟩ := h
    have hsub := sub_enumerate
    have q1 : ∀ {A' : Around} {E : Value → Shared → Prop} {Q : Value → Shared → Prop}, Q (.ref (it hp)) ⟨hp' hp, g, d, tk, os⟩ → wpAny (model prog w) A' (pyIter v) Q E ⟨hp, g, d, tk, os⟩ :=
      fun q => B prog w _ _ ⟨hp, g, d, tk, os⟩ _ h1 q
    wp_walk using q1
    refine wpAny_stack_any fun st => wpAny_pure ?_
    split
    · rename_i c _ _ _ _ _
      cases (c == Value.type "enumerate")
      · wp_walk using q1
        exact ⟨_, rfl, h⟩
      · wp_walk using q1
        exact ⟨_, rfl, h⟩
    · wp_walk using q1
      exact ⟨_, rfl, h⟩
section
variable {prog : Program} {w : World} {A : Around} {E : Value → Shared → Prop} {s : Shared}
theorem call_enumG {v : Value} {hp' : Heap → Heap} {it : Heap → Addr} {H : Heap → Prop} {Q : Value → Shared → Prop}
    (B : ∀ (prog : Program) (w : World) (A : Around) (E : Value → Shared → Prop) (s : Shared) (Q : Value → Shared → Prop), H s.heap → Q (.ref (it s.heap)) { s with heap := hp' s.heap } → wpAny (model prog w) A (pyIter v) Q E s)
    (h1 : H s.heap) (hk : ∀ b o, s.heap.get? b = some o → (hp' s.heap).get? b = some o)
    (h : ∀ h', IsEnum h' (hp' s.heap).objs.size (it s.heap) 0 .none → (∀ b o, (hp' s.heap).get? b = some o → h'.get? b = some o) → h'.objs.size = (hp' s.heap).objs.size + 1 → Q (.ref (hp' s.heap).objs.size) { s with heap := h' }) :
    wpAny (model prog w) A (call (.type "enumerate") [v]) Q E s := by
  refine callType_new F.called_enumerate (by decide) (F.typeCall_enumerate_1 _) (F.newCall_enumerate_1 _) (fun obj => F.args_object_init_2 obj _) F.entry_enumerate_new (meets_enumG B) ⟨h1, ?_⟩
  have he : IsEnum ((hp' s.heap).push { cls := .type "enumerate", data := .fields #[.none, .bool false, .ref (it s.heap), rawInt 0, .none, .none] }) (hp' s.heap).objs.size (it s.heap) 0 .none := Heap.get?_push_size _ rfl
  exact ⟨⟨_, he, rfl⟩, h _ he (fun b o x => Heap.get?_push_of_some _ x) (Heap.size_push ..)⟩
end
section
variable {prog : Program} {w : World} {A : Around} {E : Value → Shared → Prop} {s : Shared}
theorem enum_end_of {e it : Addr} {i : Int} {old : Value} {Q : Option Value → Shared → Prop} (he : IsEnum s.heap e it i old)
    (hd : ∀ (Q : Value → Shared → Prop) (E : Value → Shared → Prop), (∀ h' e, Heap.ExtBut it s.heap h' → (∃ o, h'.get? e = some o ∧ o.cls = .type "StopIteration") → E (.ref e) { s with heap := h' }) → wpAny (model prog w) A.in1 (Builtin.SmallTypes.nextOf (.ref it)) Q E s)
    (hQ : ∀ h', Heap.ExtBut it s.heap h' → Q none { s with heap := h' }) : wpAny (model prog w) A (pyNext (.ref e)) Q E s := by
  have hT : s.TypeIs (.ref e) "enumerate" := ⟨_, he, rfl⟩
  unfold pyNext
  refine wpAny_bind (wpAny_attempt (wpAny_callSpecial?_slot (name := Str.ofString "__next__") hT F.slot_enumerate_next
    (wpAny_call_entry F.slot_enumerate_next hT F.entry_enumerate_next ?_ (F.args_enumerate_next_1 _))))
  show wpAny _ _ (field (.ref e) 2 >>= _) _ _ _
  refine wpAny_bind (wpAny_field he rfl (x := .ref it) rfl ?_)
  refine wpAny_bind (hd _ _ fun h' x he' hx' => ?_)
  obtain ⟨o, ho, hc⟩ := hx'
  refine wpAny_bind (wpAny_isInstance (T := "StopIteration") (b := true) ⟨o, ho, hc⟩ isSubtype_stop ?_)
  exact wpAny_pure (hQ _ he')
end
/-- the tuple at a at each turn, each item in a new pair -/
def IteT (K : PySem.W.Frag) (a : Addr) : It :=
  ⟨fun i H => ∃ (xs : List V) (x : V), SqT K H a xs ∧ xs[i]? = some x, fun i H v H' => ∃ T x, v = .ref T ∧ H T = none ∧ H' = upd H T (.tup [.int (i : Nat), x]) ∧ ∀ xs, SqT K H a xs → xs[i]? = some x, fun i H => ∃ xs : List V, SqT K H a xs ∧ xs.length ≤ i⟩
theorem turn_enumT {P : Program} {w : World} {K : PySem.W.Frag} {elts : List Expr} {kk : Nat} {tpos : Pos} (a e it : Addr) :
    Turn P w K (.Tuple elts kk tpos) (IteT K a) [e, it] e (fun i h => (∃ old, IsEnum h e it ((i : Nat) : Int) old) ∧ h.IsTupleIter it a i ∧ e ≠ it ∧ e ≠ a ∧ it ≠ a) where
  mem := by simp
  obj := fun i h st b hb => by
    obtain ⟨⟨old, he⟩, ⟨o, ho, hc, hd⟩, _⟩ := st
    have e' : b = e ∨ b = it := by simpa using hb
    rcases e' with z | z
    · rw [z]; exact ⟨_, he, fun v q => nomatch q⟩
    · rw [z]; exact ⟨o, ho, fun v q => by rw [hd] at q; cases q⟩
  keep := fun i h h' st k => let ⟨⟨old, he⟩, hi, hne⟩ := st; ⟨⟨old, k e (by simp) _ he⟩, hi.at fun o q => k it (by simp) o q, hne⟩
  item := by
    intro X hP hw hK hc i pins s σ H E I hf st hg
    subst hP hw hK
    obtain ⟨⟨old, he⟩, hit, hne, hea, hia⟩ := st
    obtain ⟨xs, x, hq, hx⟩ := hg
    obtain ⟨its, rv, p, hz⟩ := I.tuple hq
    obtain ⟨u, hu, ru⟩ := rv.get hx
    have hel : e < s.heap.objs.size := Heap.lt_size he
    have hil : it < s.heap.objs.size := by obtain ⟨_, q, _⟩ := hit; exact Heap.lt_size q
    have hlt : i < its.toArray.size := by
      have := (List.getElem?_eq_some_iff.mp hu).1
      simpa using this
    have pt : s.heap.IsTuple a its.toArray := p
    refine wpAny_pyNext_enum_itemD (Draws.tuple (A := X.A.in1) (show X.A.in1.handled = none from I.ok.hd hc) it a (Ne.symm hia) its.toArray) he ⟨hit, pt⟩ hlt hne (show e ∉ [it, a] by simp [hne, hea]) fun u' h' tk hu' ho hit' hT hsz hk => ?_
    have eu : u' = u := by
      have := hu'
      simp only [List.getElem?_toArray] at this
      rw [hu] at this
      exact (Option.some.inj this).symm
    subst eu
    refine ⟨_, rfl, wpAny_letOwnedTupleGo_enum (s := { s with heap := h', toks := tk + 1 }) ho fun h'' he' sb => ?_⟩
    have hT2 : h''.get? s.heap.objs.size = some { cls := .type "tuple", data := .seq #[.int i tk, u'] } := (sb.2 _ (Nat.ne_of_gt hel)).trans hT
    have new : ObjOk X.prog X.w (upd H s.heap.objs.size (.tup [.int (i : Nat), x])) h'' s.heap.objs.size (.tup [.int (i : Nat), x]) :=
      ⟨by show 2 ≤ sizeLine; decide, [.int i tk, u'], .cons ⟨_, rfl⟩ (.cons ru .nil), ⟨_, hT2, rfl, _, rfl⟩⟩
    have I1 : Inv X pins σ (upd H s.heap.objs.size (.tup [.int (i : Nat), x])) { s with heap := h'', toks := tk + 1 } :=
      I.turnedNew (ch := [e, it]) (fun b ob hb q => (sb.2 b (fun z => hb (by simp [z]))).trans (hk b ob (fun z => hb (by simp [z])) (fun z => hb (by simp [z])) q)) hf (Nat.le_refl _) new
    refine ⟨.ref s.heap.objs.size, _, I1, rfl, ⟨_, x, rfl, I.hok.fresh (Nat.le_refl _), rfl, fun ys hy => by rw [I.tuple_inj hy hq]; exact hx⟩, ⟨⟨u', ?_⟩, hit'.1.at fun o q => (sb.2 it (Ne.symm hne)).trans q, hne, hea, hia⟩, fun b hb => ?_⟩
    · have e1 : ((i + 1 : Nat) : Int) = (i : Int) + 1 := by omega
      rw [e1]; exact he'
    · have hb' : b < s.heap.objs.size := by
        have e' : b = e ∨ b = it := by simpa using hb
        rcases e' with z | z
        · rw [z]; exact hel
        · rw [z]; exact hil
      rw [upd_ne (Nat.ne_of_lt hb')]
      exact (hf b hb).1
  done := by
    intro X hP hw hK hc i pins s σ H E I hf st hg
    subst hP hw hK
    obtain ⟨⟨old, he⟩, hit, hne, hea, hia⟩ := st
    obtain ⟨xs, hq, hx⟩ := hg
    obtain ⟨its, rv, p, hz⟩ := I.tuple hq
    obtain ⟨f0, f1, f2, f3, f4, f5⟩ := hf it (by simp)
    have hl := rv.length
    have pt : s.heap.IsTuple a its.toArray := p
    have hge : its.toArray.size ≤ i := by simp; omega
    exact enum_end_of he (fun Q E hE => wpAny_nextOf_tuple_end (show X.A.in1.handled = none from I.ok.hd hc) hit pt (Array.getElem?_eq_none hge) hE) fun h' eb => ⟨rfl, I.turned (t' := s.toks) (fun b o hb q => eb b o hb q) f0 f1 f3 f4 f5⟩
  self := fun A i s Q E st h => let ⟨⟨_, he⟩, _⟩ := st; wpAny_pyIter_enum he h

theorem itr_enumT {K : PySem.W.Frag} {w : W3} {a : Addr} {ds : List PyData} (h : Dp K w.h (.ref a) (.tuple ds)) : ItR K w (IteT K a) (enum3 ds) fun _ => True := fun w' H S e r _ => by
  obtain ⟨a', xs, ea, hqa, ha⟩ := dp_tup_ref (dp_mono e.h _ _ h)
  cases ea
  have hqa' := Same.sqT r.sub hqa
  have la := DpAll.length ha
  refine ⟨fun i hi => ⟨xs, hqa', by rw [enum3_len] at hi; omega⟩, fun i x hx => ?_⟩
  obtain ⟨x1, g1, rfl⟩ := enum3_get hx
  obtain ⟨v1, k1, k2⟩ := DpAll.get ha g1
  refine ⟨⟨xs, v1, hqa', k1⟩, fun v H' y => ?_⟩
  obtain ⟨T, y1, rfl, hn, rfl, z1⟩ := y
  have := (z1 _ hqa').symm.trans k1
  cases this
  exact pair_in r hn (.int _) k2
def iEnumT (K : PySem.W.Frag) (ta : TA) : TI := fun σ H R => ta σ H fun vs H1 => ∃ a xs, vs = [.ref a] ∧ SqT K H1 a xs ∧ R (IteT K a) H1
section
variable {X : Cx} {e : Expr} {ta : TA} {te : TA3} {p pos tpos : Pos} {elts : List Expr} {kk : Nat}
def iEnumA (K : PySem.W.Frag) (ta : TA) : TI := fun σ H R => ta σ H fun vs H1 => ∃ a xs, vs = [.ref a] ∧ ((SqL K H1 a xs ∧ R (Ite K a) H1) ∨ (SqT K H1 a xs ∧ R (IteT K a) H1))
theorem pi_enumA (hg : Gl X "enumerate") (hm : X.mg "enumerate" = none) (ha : PA X [e] ta) (hs : starEach [e] X.env = [(false, eval e X.env)] := by rfl) :
    PI X (.Tuple elts kk tpos) (.Call (.Name "enumerate" p) [e] [] pos) (iEnumA X.K ta) := by
  refine ⟨fun pins s σ H R I h => ?_⟩
  refine Call_ (ld_blt I hg hm boot_enumerate (PyProof.Rows.callWith_type1 (thn (ha.run pos pins s σ H _ I h) fun us s1 ⟨vs, H1, I1, r1, q1⟩ => ?_) hs rfl))
  obtain ⟨a, xs, ex, q⟩ := q1
  subst ex
  cases r1 with
  | cons r rr =>
    cases rr
    cases r
    rcases q with ⟨hq, q⟩ | ⟨hq, q⟩
    · obtain ⟨its, rv, p', hz⟩ := I1.list hq
      refine call_enumerate_list p'.isList fun h' he hit hsz hk => wpAny_pyIter_enum he ?_
      have I2 : Inv X pins σ H1 { s1 with heap := h' } := I1.kept (t' := s1.toks) hk
      refine ⟨s1.heap.objs.size + 1, [s1.heap.objs.size + 1, s1.heap.objs.size], _, _, H1, rfl, I2, turn_enum a (s1.heap.objs.size + 1) s1.heap.objs.size, ⟨⟨.none, he⟩, hit, Nat.succ_ne_self _⟩, fun b hb => ?_, q⟩
      have e' : b = s1.heap.objs.size + 1 ∨ b = s1.heap.objs.size := by simpa using hb
      have hle : s1.heap.objs.size ≤ b := by
        rcases e' with z | z
        · rw [z]; exact Nat.le_add_right _ _
        · rw [z]; exact Nat.le_refl _
      exact I1.fpOk hle (I1.hok.fresh hle)
    · obtain ⟨its, rv, p', hz⟩ := I1.tuple hq
      have pt : s1.heap.IsTuple a its.toArray := p'
      have B := begins_tuple a its.toArray
      have hlt : a < s1.heap.objs.size := p'.lt
      refine call_enumG (hp' := fun h => h.push { cls := .type "tuple_iterator", data := .fields #[.ref a, .int 0 0] }) (it := fun h => h.objs.size) (H := fun h => h.IsTuple a its.toArray) B.iter pt (fun b o x => Heap.get?_push_of_some _ x) fun h' he hk hsz => wpAny_pyIter_enum he ?_
      have hz' : (s1.heap.push { cls := .type "tuple_iterator", data := .fields #[.ref a, .int 0 0] }).objs.size = s1.heap.objs.size + 1 := Heap.size_push ..
      have hk' : ∀ b o, s1.heap.get? b = some o → h'.get? b = some o := fun b o x => hk b o (Heap.get?_push_of_some _ x)
      have hit : h'.IsTupleIter s1.heap.objs.size a 0 := ⟨_, hk _ _ (Heap.get?_push_size _ rfl), rfl, rfl⟩
      have I2 : Inv X pins σ H1 { s1 with heap := h' } := I1.kept (t' := s1.toks) hk'
      simp only [hz'] at he ⊢
      refine ⟨s1.heap.objs.size + 1, [s1.heap.objs.size + 1, s1.heap.objs.size], _, _, H1, rfl, I2, turn_enumT a (s1.heap.objs.size + 1) s1.heap.objs.size, ⟨⟨.none, he⟩, hit, Nat.succ_ne_self _, Nat.ne_of_gt (Nat.lt_succ_of_lt hlt), Nat.ne_of_gt hlt⟩, fun b hb => ?_, q⟩
      have e' : b = s1.heap.objs.size + 1 ∨ b = s1.heap.objs.size := by simpa using hb
      have hle : s1.heap.objs.size ≤ b := by
        rcases e' with z | z
        · rw [z]; exact Nat.le_add_right _ _
        · rw [z]; exact Nat.le_refl _
      exact I1.fpOk hle (I1.hok.fresh hle)
def tEnumA3 (ta : TA3) : TI3 := fun env S Q => ta env S fun ds S1 => match ds with
  | [.p (.tuple xs)] => Q (enum3 xs) (fun _ => True) S1
  | [x] => (match lst3 S1 x with
    | some xs => Q (enum3 xs) (fun S => lst3 S x = some xs) S1
    | _ => False)
  | _ => False
theorem qi_enumA (hc : X.calm = true) (hg : Gl X "enumerate") (hm : X.mg "enumerate" = none) (ha : QA X [e] te) (hs : starEach [e] X.env = [(false, eval e X.env)] := by rfl) :
    QI X (.Tuple elts kk tpos) (.Call (.Name "enumerate" p) [e] [] pos) (tEnumA3 te) := (pi_enumA hg hm ha hs).imp fun σ H R ⟨w, env, S, Q, r0, en, t, q⟩ => by
  refine ⟨w, env, S, _, r0, en, t, fun w1 vs ds H1 S1 e1 r1 p1 t1 => ?_⟩
  split at t1
  · obtain ⟨v, rfl, p2⟩ := rds1 p1
    obtain ⟨a, xs, rfl, hqa, ha⟩ := dp_tup_ref p2
    have l1 := len_tup r1 p2
    exact ⟨a, xs, rfl, .inr ⟨Same.sqT r1.sub hqa, q w1 _ H1 S1 _ _ e1 r1 (itr_enumT p2) (by rw [enum3_len]; exact l1) t1⟩⟩
  · obtain ⟨v, rfl, p2⟩ := rds1 p1
    split at t1
    · rename_i xs' h1
      obtain ⟨a, xs, rfl, hqa, ha, hla⟩ := lst3_low r1 p2 h1
      exact ⟨a, xs, rfl, .inl ⟨hqa, q w1 _ H1 S1 _ _ e1 r1 (itr_enum p2) (by rw [enum3_len]; exact hla) t1⟩⟩
    · exact t1.elim
  · exact t1.elim
end

/-! ### enumerate(reversed(tuple)) -/
open RT
section
variable {prog : Program} {w : World} {A : Around} {E : Value → Shared → Prop} {s : Shared}
theorem nextOf_rt_item {it t : Addr} {i : Nat} {items : Array Value} {x : Value} {Q : Value → Shared → Prop} (hit : IsRt s.heap it t (i : Int)) (ht : IsTup s.heap t items) (hx : items[i]? = some x) (hsz : items.size ≤ sizeLine)
    (hQ : ∀ h', IsRt h' it t ((i : Int) - 1) → Heap.SameBut it s.heap h' → Q x { s with heap := h', toks := s.toks + 1 }) : wpAny (model prog w) A (Builtin.SmallTypes.nextOf (.ref it)) Q E s := by
  obtain ⟨o, ho, hc, hd⟩ := id hit
  have hi : i < items.size := (Array.getElem?_eq_some_iff.mp hx).1
  have hT : s.TypeIs (.ref t) "tuple" := IsTup.typeOf' ht
  rw [sizeLine_eq] at hsz
  unfold Builtin.SmallTypes.nextOf
  refine wpAny_bind (wpAny_callSpecial?_slot (name := Str.ofString "__next__") hit.typeIs slot_rt_next
    (wpAny_call_entry slot_rt_next hit.typeIs entry_rt_next ?_ (args_rt_next _)))
  unfold Builtin.«reversed.__next__»
  refine wpAny_bind (wpAny_of_eq (a := (Value.ref it, [])) rfl ?_)
  try dsimp only
  refine wpAny_bind (wpAny_field ho hd (x := .ref t) rfl ?_)
  try dsimp only
  refine wpAny_bind (wpAny_field ho hd (x := rawInt (i : Int)) rfl ?_)
  show wpAny _ _ (if (i : Int) < 0 then _ else _) _ _ s
  rw [if_neg (by omega)]
  try dsimp only
  refine wpAny_bind (wpAny_specialOf hT get_tuple ?_)
  try dsimp only
  try rw [if_neg (by decide)]
  try dsimp only
  refine wpAny_bind (wpAny_mkInt ?_)
  refine wpAny_bind (wpAny_attempt ?_)
  have fin : seqIndex? (i : Int) items.size = some i := seqIndex_of (by omega) (by omega)
  refine PyProof.Rows.getItem_tuple (s := { s with toks := s.toks + 1 }) ht (by omega) (by omega) fin hx ?_
  try dsimp only
  refine wpAny_bind (wpAny_field (s := { s with toks := s.toks + 1 }) ho hd (x := rawInt (i : Int)) rfl ?_)
  try dsimp only
  refine wpAny_bind (wpAny_setField (s := { s with toks := s.toks + 1 }) ho hd (by simp) ?_)
  have fin2 := hQ _ (show IsRt (s.heap.update it (Obj.mapFields (·.setIfInBounds 1 (rawInt ((i : Int) - 1))))) it t ((i : Int) - 1) from ⟨_, Heap.get?_update_self _ ho (Obj.isFreed_of_fields (Obj.data_mapFields hd _)), (Obj.cls_mapFields ..).trans hc, by
    rw [Obj.data_mapFields hd]; simp⟩) (Heap.SameBut.update ..)
  first
  | exact wpAny_pure ⟨x, rfl, wpAny_pure fin2⟩
  | exact wpAny_bind (wpAny_pure (wpAny_pure ⟨x, rfl, wpAny_pure fin2⟩))
theorem nextOf_rt_end {it t : Addr} {Q : Value → Shared → Prop} (hh : A.handled = none) (hit : IsRt s.heap it t (-1))
    (hE : ∀ h' e, Heap.ExtBut it s.heap h' → (∃ o, h'.get? e = some o ∧ o.cls = .type "StopIteration") → E (.ref e) { s with heap := h' }) : wpAny (model prog w) A (Builtin.SmallTypes.nextOf (.ref it)) Q E s := by
  obtain ⟨o, ho, hc, hd⟩ := id hit
  unfold Builtin.SmallTypes.nextOf
  refine wpAny_bind (wpAny_callSpecial?_slot (name := Str.ofString "__next__") hit.typeIs slot_rt_next
    (wpAny_call_entry slot_rt_next hit.typeIs entry_rt_next ?_ (args_rt_next _)))
  unfold Builtin.«reversed.__next__»
  refine wpAny_bind (wpAny_of_eq (a := (Value.ref it, [])) rfl ?_)
  try dsimp only
  refine wpAny_bind (wpAny_field ho hd (x := .ref t) rfl ?_)
  try dsimp only
  refine wpAny_bind (wpAny_field ho hd (x := rawInt (-1)) rfl ?_)
  show wpAny _ _ (if (-1 : Int) < 0 then _ else _) _ _ s
  rw [if_pos (by decide)]
  try dsimp only
  refine wpAny_bind (wpAny_rule ?_)
  refine wpAny_bind ?_
  wp_delta
  refine wpAny_bind (wpAny_setField ho hd (by simp) ?_)
  have ho2 := Heap.get?_update_self (Obj.mapFields (·.setIfInBounds 1 (rawInt (-1)))) ho (Obj.isFreed_of_fields (Obj.data_mapFields hd _))
  refine wpAny_setField (s := { s with heap := s.heap.update it (Obj.mapFields (·.setIfInBounds 1 (rawInt (-1)))) }) ho2 (Obj.data_mapFields hd _) (by simp) ?_
  try dsimp only
  first
  | show wpAny _ _ (newExc (.type "StopIteration") [] >>= _) _ _ _
  | (refine wpAny_bind ?_; show wpAny _ _ (newExc (.type "StopIteration") [] >>= _) _ _ _)
  | (refine wpAny_bind ?_; wp_delta; show wpAny _ _ (newExc (.type "StopIteration") [] >>= _) _ _ _)
  refine wpAny_bind ?_
  simp only [newExc, newTuple]
  refine wpAny_bind (wpAny_newObj_type ?_ (by size_fits))
  refine wpAny_bind (m := firstArgMember _ _) (wpAny_of_eq (a := Value.none) (by first | rfl | (simp only [firstArgMember]; rfl)) ?_)
  refine wpAny_newObj_type ?_ (by size_fits)
  simp only [raiseNew]
  refine wpAny_bind (wpAny_handled ?_)
  first | rw [show A.in1.handled = none from hh] | rw [hh]
  refine wpAny_bind (wpAny_pure (wpAny_throw ?_))
  refine hE _ _ ?_ ⟨_, Heap.get?_push_size _ rfl, rfl⟩
  refine ((?_ : Heap.ExtBut it s.heap _).push _).push _
  exact fun b ob hb e => (Heap.get?_update_other _ _ (Ne.symm hb)).trans ((Heap.get?_update_other _ _ (Ne.symm hb)).trans e)
theorem draws_rt (hh : A.handled = none) (it t : Addr) (hne : t ≠ it) (items : Array Value) (hsz : items.size ≤ sizeLine) :
    Draws prog w A it [it, t] items.size (fun i v => items[items.size - 1 - i]? = some v) (fun i h => i ≤ items.size ∧ IsRt h it t ((items.size : Int) - 1 - (i : Nat)) ∧ h.IsTuple t items) where
  live := fun _ _ st => let ⟨_, ⟨o, ho, _⟩, _⟩ := st; ⟨o, ho⟩
  frame := fun _ _ _ st hk => ⟨st.1, st.2.1.at fun o e => hk it (by simp) o e, st.2.2.at fun o e => hk t (by simp) o e⟩
  item := fun i s Q E hi st hQ => by
    have hlt : items.size - 1 - i < items.size := by omega
    have e1 : (items.size : Int) - 1 - ((i : Nat) : Int) = ((items.size - 1 - i : Nat) : Int) := by omega
    have st2 := st.2.1
    rw [e1] at st2
    refine nextOf_rt_item st2 st.2.2 (x := items[items.size - 1 - i]) (Array.getElem?_eq_getElem hlt) hsz fun h' st' sb => ?_
    have e2 : ((items.size - 1 - i : Nat) : Int) - 1 = (items.size : Int) - 1 - ((i + 1 : Nat) : Int) := by omega
    rw [e2] at st'
    exact hQ _ h' (s.toks + 1) (Array.getElem?_eq_getElem hlt) ⟨by omega, st', st.2.2.extBut sb.extBut hne⟩ sb
  done := fun s Q E st hE => by
    have st2 := st.2.1
    have e1 : (items.size : Int) - 1 - ((items.size : Nat) : Int) = -1 := by omega
    rw [e1] at st2
    exact nextOf_rt_end hh st2 hE
end
/-- the tuple at a from its end, each item in a new pair -/
def IteR (K : PySem.W.Frag) (a : Addr) (n : Nat) : It :=
  ⟨fun i H => i < n ∧ ∃ (xs : List V) (x : V), SqT K H a xs ∧ xs.length = n ∧ xs[n - 1 - i]? = some x, fun i H v H' => ∃ T x, v = .ref T ∧ H T = none ∧ H' = upd H T (.tup [.int (i : Nat), x]) ∧ ∀ xs, SqT K H a xs → xs[n - 1 - i]? = some x, fun i _ => n ≤ i⟩
theorem turn_enumR {P : Program} {w : World} {K : PySem.W.Frag} {elts : List Expr} {kk : Nat} {tpos : Pos} (a e it : Addr) (n : Nat) :
    Turn P w K (.Tuple elts kk tpos) (IteR K a n) [e, it] e (fun i h => (∃ old, IsEnum h e it ((i : Nat) : Int) old) ∧ (i ≤ n ∧ IsRt h it a ((n : Int) - 1 - (i : Nat))) ∧ e ≠ it ∧ e ≠ a ∧ it ≠ a) where
  mem := by simp
  obj := fun i h st b hb => by
    obtain ⟨⟨old, he⟩, ⟨_, o, ho, hc, hd⟩, _⟩ := st
    have e' : b = e ∨ b = it := by simpa using hb
    rcases e' with z | z
    · rw [z]; exact ⟨_, he, fun v q => nomatch q⟩
    · rw [z]; exact ⟨o, ho, fun v q => by rw [hd] at q; cases q⟩
  keep := fun i h h' st k => let ⟨⟨old, he⟩, hi, hne⟩ := st; ⟨⟨old, k e (by simp) _ he⟩, ⟨hi.1, hi.2.at fun o q => k it (by simp) o q⟩, hne⟩
  item := by
    intro X hP hw hK hc i pins s σ H E I hf st hg
    subst hP hw hK
    obtain ⟨⟨old, he⟩, ⟨hin, hit⟩, hne, hea, hia⟩ := st
    obtain ⟨hlt, xs, x, hq, hxl, hx⟩ := hg
    obtain ⟨its, rv, p, hz⟩ := I.tuple hq
    obtain ⟨u, hu, ru⟩ := rv.get hx
    have hl := rv.length
    have hsz : its.toArray.size = n := by rw [List.size_toArray]; omega
    have hel : e < s.heap.objs.size := Heap.lt_size he
    have hil : it < s.heap.objs.size := by obtain ⟨_, q, _⟩ := hit; exact Heap.lt_size q
    have pt : s.heap.IsTuple a its.toArray := p
    refine wpAny_pyNext_enum_itemD (draws_rt (A := X.A.in1) (show X.A.in1.handled = none from I.ok.hd hc) it a (Ne.symm hia) its.toArray (by rw [hsz, ← hxl]; exact hz)) he ⟨by omega, by rw [hsz]; exact hit, pt⟩ (by omega) hne (show e ∉ [it, a] by simp [hne, hea]) fun u' h' tk hu' ho hit' hT hsz' hk => ?_
    have eu : u' = u := by
      have := hu'
      rw [hsz] at this
      simp only [List.getElem?_toArray] at this
      rw [hu] at this
      exact (Option.some.inj this).symm
    subst eu
    refine ⟨_, rfl, wpAny_letOwnedTupleGo_enum (s := { s with heap := h', toks := tk + 1 }) ho fun h'' he' sb => ?_⟩
    have hT2 : h''.get? s.heap.objs.size = some { cls := .type "tuple", data := .seq #[.int i tk, u'] } := (sb.2 _ (Nat.ne_of_gt hel)).trans hT
    have new : ObjOk X.prog X.w (upd H s.heap.objs.size (.tup [.int (i : Nat), x])) h'' s.heap.objs.size (.tup [.int (i : Nat), x]) :=
      ⟨by show 2 ≤ sizeLine; decide, [.int i tk, u'], .cons ⟨_, rfl⟩ (.cons ru .nil), ⟨_, hT2, rfl, _, rfl⟩⟩
    have I1 : Inv X pins σ (upd H s.heap.objs.size (.tup [.int (i : Nat), x])) { s with heap := h'', toks := tk + 1 } :=
      I.turnedNew (ch := [e, it]) (fun b ob hb q => (sb.2 b (fun z => hb (by simp [z]))).trans (hk b ob (fun z => hb (by simp [z])) (fun z => hb (by simp [z])) q)) hf (Nat.le_refl _) new
    have hit2 := hit'.2.1
    rw [hsz] at hit2
    refine ⟨.ref s.heap.objs.size, _, I1, rfl, ⟨_, x, rfl, I.hok.fresh (Nat.le_refl _), rfl, fun ys hy => by rw [I.tuple_inj hy hq]; exact hx⟩, ⟨⟨u', ?_⟩, ⟨by omega, hit2.at fun o q => (sb.2 it (Ne.symm hne)).trans q⟩, hne, hea, hia⟩, fun b hb => ?_⟩
    · have e1 : ((i + 1 : Nat) : Int) = (i : Int) + 1 := by omega
      rw [e1]; exact he'
    · have hb' : b < s.heap.objs.size := by
        have e' : b = e ∨ b = it := by simpa using hb
        rcases e' with z | z
        · rw [z]; exact hel
        · rw [z]; exact hil
      rw [upd_ne (Nat.ne_of_lt hb')]
      exact (hf b hb).1
  done := by
    intro X hP hw hK hc i pins s σ H E I hf st hg
    subst hP hw hK
    obtain ⟨⟨old, he⟩, ⟨hin, hit⟩, hne, hea, hia⟩ := st
    have hi : n ≤ i := hg
    obtain ⟨f0, f1, f2, f3, f4, f5⟩ := hf it (by simp)
    have e1 : (n : Int) - 1 - ((i : Nat) : Int) = -1 := by omega
    rw [e1] at hit
    exact enum_end_of he (fun Q E hE => nextOf_rt_end (show X.A.in1.handled = none from I.ok.hd hc) hit hE) fun h' eb => ⟨rfl, I.turned (t' := s.toks) (fun b o hb q => eb b o hb q) f0 f1 f3 f4 f5⟩
  self := fun A i s Q E st h => let ⟨⟨_, he⟩, _⟩ := st; wpAny_pyIter_enum he h
theorem itr_enumR {K : PySem.W.Frag} {w : W3} {a : Addr} {ds : List PyData} (h : Dp K w.h (.ref a) (.tuple ds)) : ItR K w (IteR K a ds.length) (enum3 ds.reverse) fun _ => True := fun w' H S e r _ => by
  obtain ⟨a', xs, ea, hqa, ha⟩ := dp_tup_ref (dp_mono e.h _ _ h)
  cases ea
  have hqa' := Same.sqT r.sub hqa
  have la := DpAll.length ha
  refine ⟨fun i hi => ?_, fun i x hx => ?_⟩
  · rw [enum3_len, List.length_reverse] at hi
    exact hi
  · obtain ⟨x1, g1, rfl⟩ := enum3_get hx
    obtain ⟨g0, g1⟩ := rev_get g1
    obtain ⟨v1, k1, k2⟩ := DpAll.get ha g1
    refine ⟨⟨g0, xs, v1, hqa', la, k1⟩, fun v H' y => ?_⟩
    obtain ⟨T, y1, rfl, hn, rfl, z1⟩ := y
    have := (z1 _ hqa').symm.trans k1
    cases this
    exact pair_in r hn (.int _) k2
section
variable {X : Cx} {e : Expr} {te : TE} {t3 : TE3} {p p2 pos pos2 tpos : Pos} {elts : List Expr} {kk : Nat}
def iEnumR (K : PySem.W.Frag) (te : TE) : TI := fun σ H R => te σ H fun v H1 => ∃ a xs, v = .ref a ∧ SqT K H1 a xs ∧ R (IteR K a xs.length) H1
theorem pi_enumR (hg : Gl X "enumerate") (hm : X.mg "enumerate" = none) (hg2 : Gl X "reversed") (hm2 : X.mg "reversed" = none) (he : PE X e te) (hs : starEach [e] X.env = (false, eval e X.env) :: starEach [] X.env := by rfl)
    (hs2 : starEach [.Call (.Name "reversed" p2) [e] [] pos2] X.env = (false, eval (.Call (.Name "reversed" p2) [e] [] pos2) X.env) :: starEach [] X.env := by rfl) :
    PI X (.Tuple elts kk tpos) (.Call (.Name "enumerate" p) [.Call (.Name "reversed" p2) [e] [] pos2] [] pos) (iEnumR X.K te) := by
  refine ⟨fun pins s σ H R I h => ?_⟩
  have inner : wpAny (model X.prog X.w) X.A (eval (.Call (.Name "reversed" p2) [e] [] pos2) X.env) (fun u s2 => ∃ (it a : Addr) (xs : List V) (H1 : Hp), u = Value.ref it ∧ Inv X pins σ H1 s2 ∧ IsRt s2.heap it a ((xs.length : Int) - 1 - ((0 : Nat) : Int)) ∧ FpOk X pins H1 it ∧ it ≠ a ∧ it < s2.heap.objs.size ∧ a < s2.heap.objs.size ∧ R (IteR X.K a xs.length) H1) X.xe s := by
    refine Call_ (ld_blt I hg2 hm2 PyProof.Rows.boot_reversed (PyProof.Rows.callWith_type1 (args_cons (thn (he.run pins s σ H _ I h) fun u s1 ⟨v, H1, I1, r1, q1⟩ => args_nil ?_) hs) hs rfl))
    obtain ⟨a, xs, ev, hq, q⟩ := q1
    subst ev
    obtain rfl : u = Value.ref a := r1
    obtain ⟨its, rv, p', hz⟩ := I1.tuple hq
    have hl := rv.length
    have hn := line63
    have e1 : ((its.toArray.size : Nat) : Int) - 1 = (xs.length : Int) - 1 - ((0 : Nat) : Int) := by simp only [List.size_toArray]; omega
    have hlt : a < s1.heap.objs.size := p'.lt
    refine call_reversed_tup p' (fun A E Q k => len_tuple p' (by simp only [List.size_toArray] <;> omega) k) ?_
    have hz' : (s1.heap.push (rtObj a ((its.toArray.size : Int) - 1))).objs.size = s1.heap.objs.size + 1 := Heap.size_push ..
    refine ⟨s1.heap.objs.size, a, xs, H1, rfl, I1.kept (t' := s1.toks + 1 + 1) (fun b o x => Heap.get?_push_of_some _ x), ?_, I1.fpOk (Nat.le_refl _) (I1.hok.fresh (Nat.le_refl _)), Nat.ne_of_gt hlt, ?_, ?_, q⟩
    · rw [← e1]
      exact ⟨_, Heap.get?_push_size _ rfl, rfl, rfl⟩
    · show s1.heap.objs.size < (s1.heap.push _).objs.size
      rw [hz']
      exact Nat.lt_succ_self _
    · show a < (s1.heap.push _).objs.size
      rw [hz']
      exact Nat.lt_succ_of_lt hlt
  refine Call_ (ld_blt I hg hm boot_enumerate (PyProof.Rows.callWith_type1 (args_cons (thn inner fun u s2 hx => args_nil ?_) hs2) hs2 rfl))
  obtain ⟨it, a, xs, H1, rfl, I2, hit, hf, hia, hlt, hla, q⟩ := hx
  refine call_enumG (v := .ref it) (hp' := fun h => h) (it := fun _ => it) (H := fun h => IsRt h it a ((xs.length : Int) - 1 - ((0 : Nat) : Int))) (fun prog w A E s Q h1 hQ => iter_rt h1 hQ) hit (fun b o x => x) fun h' he hk hsz => wpAny_pyIter_enum he ?_
  have I3 : Inv X pins σ H1 { s2 with heap := h' } := I2.kept (t' := s2.toks) hk
  refine ⟨s2.heap.objs.size, [s2.heap.objs.size, it], _, _, H1, rfl, I3, turn_enumR a s2.heap.objs.size it xs.length, ⟨⟨.none, he⟩, ⟨Nat.zero_le _, hit.at fun o q => hk it o q⟩, Nat.ne_of_gt hlt, Nat.ne_of_gt hla, hia⟩, fun b hb => ?_, q⟩
  have e' : b = s2.heap.objs.size ∨ b = it := by simpa using hb
  rcases e' with z | z
  · rw [z]
    exact I2.fpOk (Nat.le_refl _) (I2.hok.fresh (Nat.le_refl _))
  · rw [z]
    exact hf
def tEnumR3 (te : TE3) : TI3 := fun env S Q => te env S fun x S1 => match x with
  | .p (.tuple xs) => Q (enum3 xs.reverse) (fun _ => True) S1
  | _ => False
theorem qi_enumR (hc : X.calm = true) (hg : Gl X "enumerate") (hm : X.mg "enumerate" = none) (hg2 : Gl X "reversed") (hm2 : X.mg "reversed" = none) (he : QE X e t3) (hs : starEach [e] X.env = (false, eval e X.env) :: starEach [] X.env := by rfl)
    (hs2 : starEach [.Call (.Name "reversed" p2) [e] [] pos2] X.env = (false, eval (.Call (.Name "reversed" p2) [e] [] pos2) X.env) :: starEach [] X.env := by rfl) :
    QI X (.Tuple elts kk tpos) (.Call (.Name "enumerate" p) [.Call (.Name "reversed" p2) [e] [] pos2] [] pos) (tEnumR3 t3) := (pi_enumR hg hm hg2 hm2 he hs hs2).imp fun σ H R ⟨w, env, S, Q, r0, en, t, q⟩ => by
  refine ⟨w, env, S, _, r0, en, t, fun w1 v d H1 S1 e1 r1 p1 t1 => ?_⟩
  split at t1
  · obtain ⟨a, xs, rfl, hqa, ha⟩ := dp_tup_ref p1
    have l1 := len_tup r1 p1
    have la := DpAll.length ha
    refine ⟨a, xs, rfl, Same.sqT r1.sub hqa, ?_⟩
    rw [la]
    exact q w1 _ H1 S1 _ _ e1 r1 (itr_enumR p1) (by rw [enum3_len, List.length_reverse]; exact l1) t1
  · exact t1.elim
end
end L3

namespace L3
open PySem PySem.Spec PyProof.Rows L2
/-! ### a module's constant -/
theorem qe_gl {X : Cx} {x : Str} {d : PyData} {pos : Pos} (h : ∃ (u : Value) (v : V), X.mg x = some u ∧ RelV v u ∧ ∀ H, Dp X.K H v d) (hg : Gl X x) (hdb : (x == ("__debug__" : Str)) = false := by decide) : QE X (.Name x pos) (tC3 d) := by
  obtain ⟨u, v, h1, h2, h3⟩ := h
  exact qe_glob hg h1 h2 h3 hdb
/-! ### xs[i] op= e, a list of the store -/
section
variable {X : Cx}
theorem get_list : PGet X (fun x y H Q => ∃ p xs i v, x = .ref p ∧ y = .int i ∧ SqL X.K H p xs ∧ atI xs i = some v ∧ Q v H) := by
  intro pins s σ H o i ov iv Q I ro ri h
  obtain ⟨p, xs, k, z, rfl, rfl, hq, he, q⟩ := h
  cases ro
  obtain ⟨t, rfl⟩ := ri
  obtain ⟨its, r, pl, hz⟩ := I.list hq
  obtain ⟨j, h1, h2, h3, h4, h5⟩ := atI_get he
  obtain ⟨w, ew, rw'⟩ := r.get h2
  have hl := r.length
  have hn := line63
  have fin : EP X pins σ Q w s := ⟨z, H, I, rw', q⟩
  by_cases h0 : 0 ≤ k
  · have hj : k.toNat = j := by
      rw [seqIndex_of h0 h5] at h1
      exact Option.some.inj h1
    refine wpAny_getItem_list pl.isList (k := k) (x := w) ?_ ?_ ?_ fin
    all_goals first | omega | (simp; omega) | (rw [hj]; simpa using ew) | skip
  · have hj : (k + (its.toArray.size : Int)).toNat = j := by
      rw [seqIndex_neg (by omega) h4] at h1
      rw [List.size_toArray, ← hl]
      exact Option.some.inj h1
    exact wpAny_getItem_list_neg pl.isList (by omega) (by rw [List.size_toArray] <;> omega) (by omega) (by rw [hj]; simpa using ew) fin
/-- o[i] op= e -/
def tAugI3 (to ti te : TE3) (r : R3) : TS3 := fun D env S => to env S fun o S1 => ti env S1 fun i S2 => match own3 S2 o, i with
  | some (n, ds), .p (.int k) => (match atI ds k with
    | some x => te env S2 fun y S3 => r (.p x) y S3 fun z S4 => match own3 S4 o, z with
      | some (n', ds'), .p d => (match ixN ds'.length k with
        | some j => D.nx env (S4.set n' (some (.lst (ds'.set j d))))
        | none => False)
      | _, _ => False
    | none => False)
  | _, _ => False
theorem qs_augI {o i e : Expr} {to ti te : TE3} {op : Operator} {r : R3} {tip : TIp} {tpos pos : Pos} (ho : QE X o to) (hi : QE X i ti) (he : QE X e te) (hop : PIp X op tip ∧ ∀ x y H R, lowR X.K r x y H R → tip x y H R)
    (ha : ∀ ov iv new, augStore i ov iv new = (do holding [new, ov, iv] (setItem ov iv new); release [new, ov, iv] []; pure .next) := by intros; rfl) : QS X (.AugAssign (.Subscript o i tpos) op e pos) (tAugI3 to ti te r) :=
  (ps_augS ho hi get_list he hop.1 set_list ha).imp fun D σ H ⟨w, env, S, D3, r0, en, t, q⟩ => by
    refine ⟨w, env, S, _, r0, en, t, fun w1 v d H1 S1 e1 r1 p1 t1 => ?_⟩
    refine ⟨w1, env, S1, _, r1, en.mono e1, t1, fun w2 u c H2 S2 e2 r2 p2 t2 => ?_⟩
    split at t2
    rotate_left
    · exact t2.elim
    rename_i n ds k ho1
    split at t2
    rotate_left
    · exact t2.elim
    rename_i x hx
    obtain ⟨a, xs, hva, hd0, ha1, hs1, hu1, hd1, hz1⟩ := own3_low r2 (p1.mono e2) ho1
    subst hva
    obtain ⟨v1, g1, g2⟩ := atI_dp hd1 hx
    refine ⟨a, xs, k, v1, rfl, dp_int p2, .inl (.inl hu1), g1, ?_⟩
    refine ⟨w2, env, S2, _, r2, (en.mono e1).mono e2, t2, fun w3 y c3 H3 S3 e3 r3 p3 t3 => ?_⟩
    refine hop.2 _ _ _ _ ⟨w3, S3, .p x, c3, _, r3, RepD.mono (d := .p x) e3 g2, p3, t3, fun w4 z c4 H4 S4 e4 r4 p4 t4 => ?_⟩
    split at t4
    rotate_left
    · exact t4.elim
    rename_i n' ds' d' ho4
    split at t4
    rotate_left
    · exact t4.elim
    rename_i j hj
    have e14 := (e2.trans e3).trans e4
    obtain ⟨a', xs', hva', hd4, ha4, hs4, hu4, hd4', hz4⟩ := own3_low r4 (p1.mono e14) ho4
    cases hva'
    refine ⟨a, xs', k, j, rfl, dp_int p2, hu4, by rw [DpAll.length hd4']; exact hj, ?_⟩
    exact q.nx w4 σ _ env _ (e1.trans e14) (r4.put (o' := .lst (ds'.set j d')) ha4 hs4 ⟨_, rfl, DpAll.set p4 j hd4', by rw [List.length_set]; exact hz4⟩) ((en.mono e1).mono e14) t4
end
end L3

namespace L3
open PySem PySem.Spec PyProof.Rows L2
/-! ### <= of data, min of a list of data -/
def rLeD3 : R3 := fun x y S Q => match x, y with
  | .p (.int i), .p (.int j) => Q (.p (.bool (decide (i ≤ j)))) S
  | .p d, .p e => LtOk d e ∧ Q (.p (.bool (!PySem.W.dataLt e d))) S
  | _, _ => False
theorem op_leD {X : Cx} (hu : X.A.units + 64 < cLine) : OpR X (compareOp .LtE) (fun x y H Q => ∃ d e, Dp X.K H x d ∧ Dp X.K H y e ∧ LtOk d e ∧ Q (.bl (!PySem.W.dataLt e d)) H) := by
  intro pins s σ H x y v u Q I rx ry h
  obtain ⟨d, e, hd, he, ⟨h1, h2, h3⟩, q⟩ := h
  obtain ⟨as, r1⟩ := Dp.reads I d x v hd rx
  obtain ⟨bs, r2⟩ := Dp.reads I e y u he ry
  exact PySem.W.rcLe_alike d e X.A s v u as bs r1 r2 h1 h2 (by omega) X.prog X.w X.xe _ ⟨.bl _, H, I, rfl, q⟩
theorem oq_leD {X : Cx} (hu : X.A.units + 64 < cLine) : OQ X (compareOp .LtE) rLeD3 := opq (op_le.or (op_leD hu)) fun w S d e x y H Q R r0 p1 p2 t q => by
  unfold rLeD3 at t
  split at t
  · exact .inl ⟨_, _, dp_int p1, dp_int p2, q.bl r0 t⟩
  · exact .inr ⟨_, _, dp_mono r0.sub _ _ p1, dp_mono r0.sub _ _ p2, t.1, q.bl r0 t.2⟩
  · exact t.elim
def MinOk (ds : List PyData) : Prop := PySem.W.AlikeAll ds ∧ PyData.depthAll ds ≤ 60
open PySem.W in
theorem min_list_ix {prog : Program} {w : World} {A : Around} {E : Value → Shared → Prop} {s : Shared} {l : Addr} {vs : Array Value} {x : PyData} {xs : List PyData} {as : List Addr} {Q : Value → Shared → Prop} (hh : A.handled = none) (hl : s.heap.IsList l vs) (hr : ReadsAll s.heap vs.toList (x :: xs) as) (ha : AlikeAll (x :: xs)) (hu : A.units + 1 + PyData.depthAll (x :: xs) < cLine)
    (h : ∀ (i : Nat) v h' tk, i < xs.length + 1 → vs[i]? = some v → (x :: xs).getD i .none = minD x xs → (∀ b o, s.heap.get? b = some o → h'.get? b = some o) → Q v { s with heap := h', toks := tk }) :
    wpAny (model prog w) A (call (.builtin "min") [.ref l]) Q E s := by
  have hn : vs.size = xs.length + 1 := readsAll_len hr
  refine call_min_walkH (iter_listW (A := A.in1) hh hl fun s₂ e W st hfp hw hk => ?_)
  refine ⟨_, _, _, _, _, _, _, s.heap, _, rfl, W, st, hfp, by omega, hw, hk, cmpIn_lt (A := A.in1) hr ha (by show A.units + 1 + _ < _; exact hu), fun v s' hP m => ?_⟩
  obtain ⟨h', tk, rfl, hk'⟩ := moved_old e rfl m
  have e1 : vs.size - 1 = xs.length := by omega
  have e2 := argBest_fold dataLt PyData.none x xs xs.length (Nat.le_refl _)
  rw [List.take_length] at e2
  rw [e1] at hP
  exact h _ v h' tk (Nat.lt_succ_of_le e2.1) hP (by unfold minD; exact e2.2) hk'
open PySem.W in
def rMinDV (K : PySem.W.Frag) : List V → Hp → VK → Prop := fun vs H Q => ∃ (a : Addr) (xs : List V) (d : PyData) (ds : List PyData), vs = [V.ref a] ∧ SqL K H a xs ∧ DpAll K H xs (d :: ds) ∧ MinOk (d :: ds) ∧
  ∀ i y, i < ds.length + 1 → xs[i]? = some y → (d :: ds).getD i .none = minD d ds → Q y H
theorem dpAll_reads {X : Cx} {pins : List (Addr × Obj)} {σ : L2.St} {H : Hp} {s : Shared} (I : L2.Inv X pins σ H s) : ∀ {its : List Value} {xs : List V} {ds : List PyData}, Vals xs its → DpAll X.K H xs ds → ∃ as, ReadsAll s.heap its ds as
  | _, _, _, .nil, .nil => ⟨_, .nil⟩
  | _, _, _, .cons r rs, .cons p ps => by
    obtain ⟨as, h1⟩ := dpAll_reads I rs ps
    obtain ⟨bs, h2⟩ := Dp.reads I _ _ _ p r
    exact ⟨_, .cons h2 h1⟩
theorem vals_ix : ∀ {xs : List V} {vs : List Value}, Vals xs vs → ∀ (i : Nat) (v : Value), vs[i]? = some v → ∃ x, xs[i]? = some x ∧ RelV x v
  | _, _, .nil, i, v, h => by simp at h
  | _, _, .cons r rs, 0, v, h => ⟨_, rfl, by
      have e := Option.some.inj (show some _ = some v from h)
      subst e
      exact r⟩
  | _, _, .cons r rs, i + 1, v, h => by
    obtain ⟨x, h1, h2⟩ := vals_ix rs i v (by simpa using h)
    exact ⟨x, by simpa using h1, h2⟩
theorem dpAll_ix {K : PySem.W.Frag} {h : Hp} : ∀ {xs : List V} {ds : List PyData}, DpAll K h xs ds → ∀ (i : Nat) (x : V), xs[i]? = some x → i < ds.length ∧ Dp K h x (ds.getD i .none)
  | _, _, .nil, i, x, e => by simp at e
  | _, _, .cons p ps, 0, x, e => by
    have e := Option.some.inj (show some _ = some x from e)
    subst e
    exact ⟨Nat.zero_lt_succ _, p⟩
  | _, _, .cons p ps, i + 1, x, e => by
    obtain ⟨a, b⟩ := dpAll_ix ps i x (by simpa using e)
    exact ⟨Nat.succ_lt_succ a, by simpa using b⟩
open PySem.W in
theorem cr_minD {X : Cx} (hc : X.calm = true) (hu : X.A.units + 64 < cLine) : CallR X (.builtin "min") (rMinDV X.K) := by
  intro pins s σ H vs us Q I r h
  obtain ⟨a, xs, d, ds, rfl, hs, hd, ⟨hal, hdep⟩, q⟩ := h
  obtain ⟨its, rv, hl, _⟩ := I.list hs
  rw [Vals.ref1 r]
  obtain ⟨as, hr⟩ := dpAll_reads I rv hd
  refine min_list_ix (I.ok.hd hc) hl.isList hr hal (by omega) fun i v h' tk hi hv hm hk => ?_
  obtain ⟨y, hy, hrel⟩ := vals_ix rv i v (by simpa using hv)
  exact ⟨y, H, I.kept hk, hrel, q i y hi hy hm⟩
def rMinD3 : C3 := fun ds S Q => match ds with
  | [d] => (match lst3 S d with
    | some (x :: xs) => MinOk (x :: xs) ∧ Q (.p (PySem.W.minD x xs)) S
    | _ => False)
  | _ => False
theorem cq_minD {X : Cx} (hc : X.calm = true) (hu : X.A.units + 64 < cLine) : CQ X (.builtin "min") rMinD3 := callq (cr_minD hc hu) fun w S ds xs H Q R r0 p1 t q => by
  unfold rMinD3 at t
  split at t
  · obtain ⟨v, rfl, p⟩ := rds1 p1
    split at t
    · rename_i y ys h1
      obtain ⟨a, vs, rfl, hq, hd, hz⟩ := lst3_low r0 p h1
      refine ⟨a, vs, y, ys, rfl, hq, dpAll_mono r0.sub _ _ hd, t.1, fun i x hi hx hm => ?_⟩
      obtain ⟨_, hp⟩ := dpAll_ix hd i x hx
      rw [hm] at hp
      exact q.old r0 (d := .p _) hp t.2
    · exact t.elim
  · exact t.elim
end L3

namespace L3
open PySem PySem.Spec PyProof.Rows L2
/-! ### own dicts whose keys are tuples of ints and texts -/
def keysT : List PyData → Option (List Key)
  | [] => some []
  | d :: ds => match key3 d, keysT ds with
    | some k, some ks => some (k :: ks)
    | _, _ => none
/-- no empty tuple and no tuple of ints and texts stands behind the top -/
def NoTK (K : PySem.W.Frag) : Prop := ∀ (a : Addr) (o : Obj) (its : Array Value) (n : Nat) (ks : List Key), (ks = [] ∨ ∃ (i : Int) (r : List Key), ks = .inl i :: r) → K.lookup a = some o → o.cls = .type "tuple" → o.data = .seq its n → ¬ Vals (ks.map kV) its.toList
def tupOk (o : Obj) : Bool := match o.data with
  | .seq its _ => (match its.toList with
    | [] => false
    | .int _ _ :: _ => false
    | _ => true)
  | _ => true
theorem NoTK.of {K : PySem.W.Frag} (h : ∀ a o, K.lookup a = some o → tupOk o = true) : NoTK K := by
  intro a o its n ks hks hl hc hd hv
  have h1 := h a o hl
  unfold tupOk at h1
  rw [hd] at h1
  simp only at h1
  generalize its.toList = l at h1 hv
  rcases hks with rfl | ⟨i, r, rfl⟩
  · cases hv
    simp at h1
  · cases hv with
    | cons r rs =>
      obtain ⟨t, rfl⟩ := (show RelV (.int i) _ from r)
      simp at h1
theorem lookup_mem {a : Addr} {o : Obj} : ∀ {K : PySem.W.Frag}, K.lookup a = some o → (a, o) ∈ K
  | [], h => nomatch h
  | (b, x) :: K, h => by
    rw [List.lookup_cons] at h
    split at h
    · rename_i e
      cases h
      have : a = b := by simpa using e
      rw [this]
      exact List.mem_cons_self
    · exact List.mem_cons_of_mem _ (lookup_mem h)
/-- what stands behind the top, without such tuples -/
abbrev filtK (K : PySem.W.Frag) : PySem.W.Frag := K.filter fun p => tupOk p.2
theorem NoTK.filt (K : PySem.W.Frag) : NoTK (filtK K) := NoTK.of fun a o hl => (List.mem_filter.mp (lookup_mem hl)).2
/-- by rising addresses -/
def ascB : PySem.W.Frag → Bool
  | p :: q :: r => Nat.blt p.1 q.1 && ascB (q :: r)
  | _ => true
theorem asc_tail {p : Addr × Obj} {r : PySem.W.Frag} (h : ascB (p :: r) = true) : ascB r = true := by
  cases r with
  | nil => rfl
  | cons q r => unfold ascB at h; exact (Bool.and_eq_true_iff.mp h).2
theorem asc_lt : ∀ {r : PySem.W.Frag} {p : Addr × Obj}, ascB (p :: r) = true → ∀ q ∈ r, p.1 < q.1 := by
  intro r
  induction r with
  | nil => intro p _ x hx; cases hx
  | cons q r ih =>
    intro p h x hx
    have h2 := asc_tail h
    unfold ascB at h
    have h1 : p.1 < q.1 := by
      have := (Bool.and_eq_true_iff.mp h).1
      exact Nat.blt_eq.mp this
    rcases List.mem_cons.mp hx with rfl | hx
    · exact h1
    · exact Nat.lt_trans h1 (ih h2 x hx)
theorem lookup_filt {a : Addr} {o : Obj} : ∀ {K : PySem.W.Frag}, ascB K = true → (filtK K).lookup a = some o → K.lookup a = some o
  | [], _, e => nomatch e
  | (b, x) :: K, h, e => by
    unfold filtK at e
    rw [List.filter_cons] at e
    split at e
    · rw [List.lookup_cons] at e ⊢
      split at e
      · exact e
      · exact lookup_filt (asc_tail h) e
    · have ih := lookup_filt (asc_tail h) e
      have := asc_lt h _ (lookup_mem ih)
      rw [List.lookup_cons]
      have hne : (a == b) = false := by
        simp only [beq_eq_false_iff_ne, ne_eq]
        intro z
        rw [z] at this
        exact Nat.lt_irrefl _ this
      rw [hne]
      exact ih
theorem in_filt {K : PySem.W.Frag} {h : Heap} (hs : ascB K = true) (X : K.In h) : (filtK K).In h := fun a o e => X a o (lookup_filt hs e)
/-- walk_of over the part without such tuples -/
theorem walk_ofE {l : PySem.W.OpenLaw} {n k : Nat} {q : Program} {loose : List Str} {XP : (Str → Option Value) → Heap → Prop} {YP : World → Heap → Prop} {d : DefRec} {K : Params → PySem.W.Frag} {CX : World → L2.CXT} {sp : World → L2.Sp} {x : Str}
    (hn : l.most = some n) (hn2 : n ≤ sizeLine) (hdf : d.params.defaults = []) (hr : L2.Room k callerA)
    (hY : ∀ (w : World) (h : Heap), YP w h → (K w.params).In h) (hs : ∀ w : World, ascB (K w.params) = true)
    (F : ∀ (w : World) (mg : Str → Option Value) (fa : Addr) (h : Heap), (filtK (K w.params)).In h → h.Ns mainGlobals mg → mg d.name = some (.ref fa) →
      ∃ fd : FuncData, (∀ (s : Shared) (u : Value), BindsTo s fd ⟨[u], []⟩ [(x, u)]) ∧
        ∀ base : Heap, (filtK (K w.params)).In base → base.Ns mainGlobals mg → L2.FnOk l.prog w (filtK (K w.params)) mg base (CX w) k fa fd [x] (sp w))
    (hsp : ∀ (w : World) (H : Hp) (a : Addr) (ns : List Int), ns.length ≤ n → L2.Only H → SqL (filtK (K w.params)) H a (ns.map V.int) → sp w [.ref a] H (fun v _ => v = .bl true) fun _ _ _ => False)
    (hCX : ∀ (w : World) (H : Hp) (s : Shared) (e : Value) (s' : Shared), CX w [] H s (fun _ _ _ => False) e s' → False) :
    PySem.W.WalkO q loose XP YP l.row.toRowW d [] (fun f vs => PySem.call f vs) :=
  L2.walk_of (K := fun p => filtK (K p)) hn hn2 hdf hr (fun w h Y => in_filt (hs w) (hY w h Y)) F hsp hCX
theorem keysT_low {K : PySem.W.Frag} {h : Hp} : ∀ {vs : List V} {ds : List PyData} {ks : List Key}, DpAll K h vs ds → keysT ds = some ks → vs = ks.map kV
  | _, _, _, .nil, e => by cases e; rfl
  | _, _, _, .cons (v := v) (e := d) p ps, e => by
    unfold keysT at e
    split at e
    · rename_i k ks h1 h2
      cases e
      rw [List.map_cons, ← keysT_low ps h2]
      congr 1
      cases d <;> simp only [key3] at h1 <;> first | cases h1 | skip
      · cases p; rfl
      · cases p; rfl
    · cases e
/-- the key that a value stands for -/
def keyT : D → Option (List Key)
  | .p (.tuple []) => some []
  | .p (.tuple (.int i :: ds)) => keysT (.int i :: ds)
  | _ => none
theorem keyT_low {K : PySem.W.Frag} {w : W3} {H : Hp} {S : S3} {v : V} {d : D} {ks : List Key} (hK : NoTK K) (r : Rel3 K w H S) (p : RepD K w v d) (h : keyT d = some ks) : ∃ b, v = .ref b ∧ H b = some (.tup (ks.map kV)) := by
  have go : ∀ ds : List PyData, Dp K w.h v (.tuple ds) → keysT ds = some ks → (ks = [] ∨ ∃ (i : Int) (r : List Key), ks = .inl i :: r) → ∃ b, v = .ref b ∧ H b = some (.tup (ks.map kV)) := fun ds p' h hk => by
    cases p' with
    | @tup b xs _ hs ha =>
      have e := keysT_low ha h
      subst e
      refine ⟨b, rfl, ?_⟩
      rcases hs with (hs | ⟨o, hs⟩) | ⟨o, its, n, hk', hc, hd, _, hv⟩
      · exact r.sub _ _ hs
      · exact (r.sz _ _ hs).elim
      · exact (hK b o its n ks hk hk' hc hd hv).elim
  unfold keyT at h
  split at h
  · cases h
    exact go [] p rfl (.inl rfl)
  · rename_i i ds
    refine go _ p h (.inr ?_)
    unfold keysT at h
    split at h
    · rename_i h1 _
      cases h1
      cases h
      exact ⟨_, _, rfl⟩
    · cases h
  · cases h
def valE {κ β : Type} [DecidableEq κ] (kvs : List (κ × β)) (k : κ) : Option β := (kvs.find? fun kv => decide (kv.1 = k)).map (·.2)
def putE {κ β : Type} [DecidableEq κ] (kvs : List (κ × β)) (k : κ) (v : β) : List (κ × β) :=
  if (kvs.any fun kv => decide (kv.1 = k)) = true then kvs.map (fun kv => if kv.1 = k then (kv.1, v) else kv) else kvs ++ [(k, v)]
def dic3 (S : S3) : D → Option (Nat × List (List Key × PyData))
  | .loc n => match S[n]? with
    | some (some (.dic kvs)) => some (n, kvs)
    | _ => none
  | _ => none
abbrev KtR (K : PySem.W.Frag) (h : Hp) : List Key × V → List Key × PyData → Prop := fun p q => p.1 = q.1 ∧ Dp K h p.2 q.2
theorem dic3_low {K : PySem.W.Frag} {w : W3} {H : Hp} {S : S3} {v : V} {d : D} {n : Nat} {kvs : List (List Key × PyData)} (r : Rel3 K w H S) (p : RepD K w v d) (h : dic3 S d = some (n, kvs)) :
    ∃ a kxs, v = .ref a ∧ d = .loc n ∧ w.al[n]? = some a ∧ S[n]? = some (some (.dic kvs)) ∧ H a = some (.dT kxs) ∧ Paired (KtR K w.h) kxs kvs := by
  unfold dic3 at h
  split at h
  · split at h
    · rename_i es hs
      cases h
      obtain ⟨a, ha, rfl⟩ := p
      obtain ⟨_, u, hu, kxs, rfl, hp⟩ := r.live n a _ ha hs
      exact ⟨a, kxs, rfl, rfl, ha, hs, hu, hp⟩
    · cases h
  · cases h
theorem pt_val {K : PySem.W.Frag} {h : Hp} {k : List Key} : ∀ {kxs : List (List Key × V)} {kvs : List (List Key × PyData)}, Paired (KtR K h) kxs kvs → (valE kvs k = none ∧ valV kxs k = none) ∨ ∃ d v, valE kvs k = some d ∧ valV kxs k = some v ∧ Dp K h v d
  | _, _, .nil => .inl ⟨rfl, rfl⟩
  | _, _, .cons (a := p) (b := q) (l₁ := xs) (l₂ := ys) r rs => by
    by_cases e : q.1 = k
    · refine .inr ⟨q.2, p.2, ?_, ?_, r.2⟩
      · simp [valE, List.find?_cons, e]
      · simp [valV, List.find?_cons, r.1.trans e]
    · have e' : ¬ p.1 = k := fun z => e (r.1 ▸ z)
      have a : valE (q :: ys) k = valE ys k := by simp only [valE, List.find?_cons, e, decide_false]
      have b : valV (p :: xs) k = valV xs k := by simp only [valV, List.find?_cons, e', decide_false]
      rw [a, b]
      exact pt_val rs
theorem pt_any {K : PySem.W.Frag} {h : Hp} {k : List Key} : ∀ {kxs : List (List Key × V)} {kvs : List (List Key × PyData)}, Paired (KtR K h) kxs kvs → (kxs.any fun kv => decide (kv.1 = k)) = kvs.any fun kv => decide (kv.1 = k)
  | _, _, .nil => rfl
  | _, _, .cons r rs => by rw [List.any_cons, List.any_cons, r.1, pt_any rs]
theorem pt_map {K : PySem.W.Frag} {h : Hp} {k : List Key} {v : V} {d : PyData} (hd : Dp K h v d) : ∀ {kxs : List (List Key × V)} {kvs : List (List Key × PyData)}, Paired (KtR K h) kxs kvs → Paired (KtR K h) (kxs.map fun kv => if kv.1 = k then (kv.1, v) else kv) (kvs.map fun kv => if kv.1 = k then (kv.1, d) else kv)
  | _, _, .nil => .nil
  | _, _, .cons (a := p) (b := q) r rs => by
    rw [List.map_cons, List.map_cons]
    refine .cons ?_ (pt_map hd rs)
    by_cases e : q.1 = k
    · rw [if_pos e, if_pos (r.1.trans e)]
      exact ⟨r.1, hd⟩
    · rw [if_neg e, if_neg fun z => e (r.1 ▸ z)]
      exact r
theorem pt_app {K : PySem.W.Frag} {h : Hp} : ∀ {kxs lxs : List (List Key × V)} {kvs lvs : List (List Key × PyData)}, Paired (KtR K h) kxs kvs → Paired (KtR K h) lxs lvs → Paired (KtR K h) (kxs ++ lxs) (kvs ++ lvs)
  | _, _, _, _, .nil, s => s
  | _, _, _, _, .cons r rs, s => .cons r (pt_app rs s)
theorem pt_put {K : PySem.W.Frag} {h : Hp} {k : List Key} {v : V} {d : PyData} {kxs : List (List Key × V)} {kvs : List (List Key × PyData)} (p : Paired (KtR K h) kxs kvs) (hd : Dp K h v d) : Paired (KtR K h) (putK kxs k v) (putE kvs k d) := by
  unfold putK putE
  rw [pt_any p]
  split
  · exact pt_map hd p
  · exact pt_app p (.cons ⟨rfl, hd⟩ .nil)
theorem pt_len {K : PySem.W.Frag} {h : Hp} : ∀ {kxs : List (List Key × V)} {kvs : List (List Key × PyData)}, Paired (KtR K h) kxs kvs → kxs.length = kvs.length
  | _, _, .nil => rfl
  | _, _, .cons _ rs => congrArg (· + 1) (pt_len rs)
/-- {} of tuple keys -/
def tTNew3 : TE3 := fun _ S Q => Q (.loc S.length) (S ++ [some (.dic [])])
/-- d[k] -/
def tTGet3 (to ti : TE3) : TE3 := fun env S Q => to env S fun o S1 => ti env S1 fun i S2 => match dic3 S2 o with
  | some (_, kvs) => (match keyT i with
    | some k => (match valE kvs k with
      | some v => Q (.p v) S2
      | none => False)
    | none => False)
  | _ => False
/-- d[k] = e -/
def tTPut3 (te to ti : TE3) : TS3 := fun D env S => te env S fun v S1 => to env S1 fun o S2 => ti env S2 fun i S3 => match dic3 S3 o, v with
  | some (n, kvs), .p x => (match keyT i with
    | some k => kvs.length < 16777216 ∧ D.nx env (S3.set n (some (.dic (putE kvs k x))))
    | none => False)
  | _, _ => False
/-- k in d, k not in d -/
def tTIn3 (neg : Bool) (ti to : TE3) : TE3 := fun env S Q => ti env S fun i S1 => to env S1 fun o S2 => match dic3 S2 o with
  | some (_, kvs) => (match keyT i with
    | some k => Q (.p (.bool (if neg then !(valE kvs k).isSome else (valE kvs k).isSome))) S2
    | none => False)
  | _ => False
section
variable {X : Cx} {o i e : Expr} {to ti te : TE3} {pos pos' : Pos}
theorem qe_tnew : QE X (.Dict [] [] pos) tTNew3 := L2.PE.imp pe_dnewT fun σ H R ⟨w, env, S, Q, r0, en, t, q⟩ => fun p hn => by
  obtain ⟨r2, e2⟩ := r0.push (u := .dT []) (o := .dic []) hn ⟨[], rfl, .nil⟩
  refine q _ (.ref p) (.loc S.length) _ _ e2 r2 ⟨p, ?_, rfl⟩ t
  show (w.al ++ [p])[S.length]? = some p
  rw [← r0.len, List.getElem?_append_right (Nat.le_refl _)]
  simp
theorem qe_tget (hK : NoTK X.K) (hu : X.A.units + 64 < cLine) (ho : QE X o to) (hi : QE X i ti) (hs : NoSl i) : QE X (.Subscript o i pos) (tTGet3 to ti) := L2.PE.imp (pe_dget (by omega) ho hi hs) fun σ H R ⟨w, env, S, Q, r0, en, t, q⟩ => by
  refine ⟨w, env, S, _, r0, en, t, fun w1 v d H1 S1 e1 r1 p1 t1 => ?_⟩
  refine ⟨w1, env, S1, _, r1, en.mono e1, t1, fun w2 u c H2 S2 e2 r2 p2 t2 => ?_⟩
  split at t2
  · rename_i n kvs ho'
    split at t2
    · rename_i k hk
      split at t2
      · rename_i x hx
        obtain ⟨a, kxs, rfl, rfl, ha, hs', hH, hp⟩ := dic3_low r2 (p1.mono e2) ho'
        obtain ⟨b, rfl, hb⟩ := keyT_low hK r2 p2 hk
        rcases pt_val (k := k) hp with ⟨h1, _⟩ | ⟨d', v', h1, h2, h3⟩
        · rw [hx] at h1; cases h1
        · rw [hx] at h1
          cases h1
          refine ⟨a, v', rfl, ?_, (q.mono (e1.trans e2)).old (d := .p x) r2 h3 t2⟩
          rw [← h2]
          exact DGet.t hH hb
      · exact t2.elim
    · exact t2.elim
  · exact t2.elim
theorem qs_tput (hK : NoTK X.K) (hu : X.A.units + 64 < cLine) (he : QE X e te) (ho : QE X o to) (hi : QE X i ti) (hs : swapsWith e (some (.Subscript o i pos')) pos.line X.env = pure false := by rfl) : QS X (.Assign [.Subscript o i pos'] e pos) (tTPut3 te to ti) :=
  L2.PS.imp (ps_dput (by omega) ho hi he hs) fun D σ H ⟨w, env, S, D3, r0, en, t, q⟩ => by
    have hz : sizeLine = 16777216 := sizeLine_eq
    refine ⟨w, env, S, _, r0, en, t, fun w1 v d H1 S1 e1 r1 p1 t1 => ?_⟩
    refine ⟨w1, env, S1, _, r1, en.mono e1, t1, fun w2 u c H2 S2 e2 r2 p2 t2 => ?_⟩
    refine ⟨w2, env, S2, _, r2, (en.mono e1).mono e2, t2, fun w3 z b H3 S3 e3 r3 p3 t3 => ?_⟩
    split at t3
    · rename_i n kvs x ho'
      split at t3
      · rename_i k hk
        obtain ⟨a, kxs, rfl, rfl, ha, hs', hH, hp⟩ := dic3_low r3 (p2.mono e3) ho'
        obtain ⟨b', rfl, hb⟩ := keyT_low hK r3 p3 hk
        have hl := pt_len hp
        have p1' : RepD X.K w3 v (.p x) := (p1.mono e2).mono e3
        obtain ⟨t31, t3⟩ := t3
        refine ⟨a, _, rfl, DPut.t hH hb (by omega), ?_⟩
        exact q.nx w3 σ _ env _ ((e1.trans e2).trans e3) (r3.put (o' := .dic (putE kvs k x)) ha hs' ⟨_, rfl, pt_put hp p1'⟩) (((en.mono e1).mono e2).mono e3) t3
      · exact t3.elim
    · exact t3.elim
theorem tin_low {K : PySem.W.Frag} {neg : Bool} {σ : L2.St} {H : Hp} {R : VK} (hK : NoTK K) (h : low K (tTIn3 neg ti to) σ H R) : low K ti σ H fun y H1 => low K to σ H1 fun x H2 => ∃ a o, x = .ref a ∧ DGet H2 a y o ∧ R (.bl (if neg then !o.isSome else o.isSome)) H2 := by
  obtain ⟨w, env, S, Q, r0, en, t, q⟩ := h
  refine ⟨w, env, S, _, r0, en, t, fun w1 v d H1 S1 e1 r1 p1 t1 => ?_⟩
  refine ⟨w1, env, S1, _, r1, en.mono e1, t1, fun w2 u c H2 S2 e2 r2 p2 t2 => ?_⟩
  split at t2
  · rename_i n kvs ho'
    split at t2
    · rename_i k hk
      obtain ⟨a, kxs, rfl, rfl, ha, hs', hH, hp⟩ := dic3_low r2 p2 ho'
      obtain ⟨b, rfl, hb⟩ := keyT_low hK r2 (p1.mono e2) hk
      refine ⟨a, _, rfl, DGet.t hH hb, ?_⟩
      have e : (valV kxs k).isSome = (valE kvs k).isSome := by
        rcases pt_val (k := k) hp with ⟨h1, h2⟩ | ⟨d', v', h1, h2, _⟩ <;> rw [h1, h2] <;> rfl
      rw [e]
      exact (q.mono (e1.trans e2)).bl r2 t2
    · exact t2.elim
  · exact t2.elim
theorem qe_tin (hK : NoTK X.K) (hu : X.A.units + 64 < cLine) (hi : QE X i ti) (ho : QE X o to) (h1 : behindInMarks .In o = false := by rfl) : QE X (.Compare i [.In] [o] pos) (tTIn3 false ti to) :=
  L2.PE.imp (pe_cmp (pc_din (by omega) hi ho) h1) fun σ H R h => tin_low hK h
theorem qe_tnotin (hK : NoTK X.K) (hu : X.A.units + 64 < cLine) (hi : QE X i ti) (ho : QE X o to) (h1 : behindInMarks .NotIn o = false := by rfl) : QE X (.Compare i [.NotIn] [o] pos) (tTIn3 true ti to) :=
  L2.PE.imp (pe_cmp (pc_dnotin (by omega) hi ho) h1) fun σ H R h => tin_low hK h
theorem qt_tin (hK : NoTK X.K) (hu : X.A.units + 64 < cLine) (hi : QE X i ti) (ho : QE X o to) (h1 : behindInMarks .In o = false := by rfl) : QT X (.Compare i [.In] [o] pos) (tTest3 (tTIn3 false ti to)) :=
  L2.PT.imp (pt_cmp (pc_din (by omega) hi ho) h1) fun σ H R h => test_low (t := tTIn3 false ti to) (t2 := fun σ H R' => low X.K (tTIn3 false ti to) σ H R') (fun R' q => q) h |> fun z => tin_low hK z
theorem qt_tnotin (hK : NoTK X.K) (hu : X.A.units + 64 < cLine) (hi : QE X i ti) (ho : QE X o to) (h1 : behindInMarks .NotIn o = false := by rfl) : QT X (.Compare i [.NotIn] [o] pos) (tTest3 (tTIn3 true ti to)) :=
  L2.PT.imp (pt_cmp (pc_dnotin (by omega) hi ho) h1) fun σ H R h => test_low (t := tTIn3 true ti to) (t2 := fun σ H R' => low X.K (tTIn3 true ti to) σ H R') (fun R' q => q) h |> fun z => tin_low hK z
end
end L3

namespace L3
open PySem PySem.Spec PyProof.Rows L2
/-! ### xs.insert(i, x); xs.index(k), of ints -/
theorem dpInts {K : PySem.W.Frag} {h : Hp} : ∀ {ns : List Int} {vs : List V}, DpAll K h vs (ns.map PyData.int) → vs = ns.map V.int
  | [], _, p => by cases p; rfl
  | n :: ns, _, p => by
    cases p with
    | cons p ps =>
      cases p
      rw [dpInts ps]
      rfl
def tIns3 (to ti te : TE3) : TE3 := fun env S Q => to env S fun o S1 => match own3 S1 o with
  | some _ => ti env S1 fun i S2 => te env S2 fun v S3 => match own3 S3 o, i, v with
    | some (n, ds), .p (.int k), .p d => (ds.length < 16777216 ∧ 0 ≤ k ∧ k < 9223372036854775808) ∧ Q (.p .none) (S3.set n (some (.lst (ds.take k.toNat ++ [d] ++ ds.drop k.toNat))))
    | _, _, _ => False
  | none => False
def tIdxL3 (to te : TE3) : TE3 := fun env S Q => to env S fun o S1 => ∃ ds, o = .p (.list ds) ∧ te env S1 fun v S2 => match v with
  | .p (.int k) => ∃ ns : List Int, ds = ns.map PyData.int ∧ k ∈ ns ∧ Q (.p (.int (ns.idxOf k : Nat))) S2
  | _ => False
section
variable {X : Cx} {o e e2 : Expr} {to te te2 : TE3} {apos cpos : Pos}
theorem qe_insert (ho : QE X o to) (he : QE X e te) (he2 : QE X e2 te2) (hbase : attributeBase o "insert" X.env (eval o X.env) = eval o X.env := by rfl)
    (hfew : ((backTo cpos (starEach [e, e2] X.env)).all (fun x => !x.1) && (backToKw cpos (keywordEach [] X.env)).all (fun x => x.1.isSome)
      && decide (([e, e2] : List Expr).length + ([] : List Keyword).length + (if ([] : List Keyword).isEmpty then 0 else 1) < 30)) = true := by rfl)
    (hline : (apos.endLine == cpos.line) = true := by rfl) (hs : starEach [e, e2] X.env = (false, eval e X.env) :: starEach [e2] X.env := by rfl) (hs2 : starEach [e2] X.env = (false, eval e2 X.env) :: starEach [] X.env := by rfl) (hplain : (backTo cpos (starEach [e2] X.env)).any (·.1) = false := by rfl) :
    QE X (.Call (.Attribute o "insert" apos) [e, e2] [] cpos) (tIns3 to te te2) :=
  (pe_bm PySem.F.plainAttrs_list PySem.F.slot_list_insert PySem.F.type_list_insert mt_insert ho (pa_cons he (pa_cons he2 pa_nil hs2) hs) hbase hfew hline hs hplain).imp fun σ H R ⟨w, env, S, Q, r0, en, t, q⟩ => by
    have hz : sizeLine = 16777216 := sizeLine_eq
    refine ⟨w, env, S, _, r0, en, t, fun w1 v d H1 S1 e1 r1 p1 t1 => ?_⟩
    split at t1
    · rename_i nd ho1
      obtain ⟨n0, ds0⟩ := nd
      obtain ⟨a0, xs0, rfl, hd0, _, _, hu0, _, _⟩ := own3_low r1 p1 ho1
      refine ⟨.inl ⟨rfl, xs0, .inl (.inl hu0)⟩, ?_⟩
      refine ⟨w1, env, S1, _, r1, en.mono e1, t1, fun w2 u c H2 S2 e2 r2 p2 t2 => ?_⟩
      refine ⟨w2, env, S2, _, r2, (en.mono e1).mono e2, t2, fun w3 z b H3 S3 e3 r3 p3 t3 => ?_⟩
      split at t3
      · rename_i n ds k d' ho3
        obtain ⟨a, xs, hva, rfl, ha, hs, hu, hd, hzz⟩ := own3_low r3 ((p1.mono e2).mono e3) ho3
        cases hva
        have hl := DpAll.length hd
        have hu' := dp_int p2
        subst hu'
        refine ⟨_, xs, k, z, rfl, rfl, hu, by omega, t3.1.2.1, t3.1.2.2, ?_⟩
        exact q w3 .non (.p .none) _ _ ((e1.trans e2).trans e3) (r3.put (o' := .lst (ds.take k.toNat ++ [d'] ++ ds.drop k.toNat)) ha hs ⟨_, rfl, DpAll.append (DpAll.append (DpAll.take _ hd) (.cons p3 .nil)) (DpAll.drop _ hd), by
          rw [List.length_append, List.length_append, List.length_take, List.length_drop, List.length_singleton]
          omega⟩) rep_non t3.2
      · exact t3.elim
    · exact t1.elim
theorem mt_idxL : MtR X "list.index" (fun x xs H Q => ∃ (p : Addr) (ns : List Int) (k : Int), x = .ref p ∧ xs = [.int k] ∧ SqL X.K H p (ns.map V.int) ∧ k ∈ ns ∧ Q (.int (ns.idxOf k : Nat)) H) := by
  intro pins s σ H x xs v us Q I rx rs h
  obtain ⟨p, ns, k, rfl, rfl, hq, hk, q⟩ := h
  cases rx
  obtain ⟨u, rfl, t, rfl⟩ := vals1 rs
  obtain ⟨its, r, pl, hz⟩ := I.list hq
  exact PySem.SeqAt.list_index_ints (vs := its) pl.isList r.ints (by rw [List.length_map] at hz; exact hz) hk ⟨.int _, H, I.tok _, ⟨_, rfl⟩, q⟩
theorem qe_idxL (ho : QE X o to) (he : QE X e te) (hbase : attributeBase o "index" X.env (eval o X.env) = eval o X.env := by rfl)
    (hfew : ((backTo cpos (starEach [e] X.env)).all (fun x => !x.1) && (backToKw cpos (keywordEach [] X.env)).all (fun x => x.1.isSome)
      && decide (([e] : List Expr).length + ([] : List Keyword).length + (if ([] : List Keyword).isEmpty then 0 else 1) < 30)) = true := by rfl)
    (hline : (apos.endLine == cpos.line) = true := by rfl) (hs : starEach [e] X.env = (false, eval e X.env) :: starEach [] X.env := by rfl) (hplain : (backTo cpos (starEach [] X.env)).any (·.1) = false := by rfl) :
    QE X (.Call (.Attribute o "index" apos) [e] [] cpos) (tIdxL3 to te) :=
  (pe_bm PySem.F.plainAttrs_list PySem.F.slot_list_index PySem.F.type_list_index mt_idxL ho (pa_cons he pa_nil hs) hbase hfew hline hs hplain).imp fun σ H R ⟨w, env, S, Q, r0, en, t, q⟩ => by
    refine ⟨w, env, S, _, r0, en, t, fun w1 v d H1 S1 e1 r1 p1 t1 => ?_⟩
    obtain ⟨ds, rfl, t1⟩ := t1
    have p1' : Dp X.K w1.h v (.list ds) := p1
    cases p1' with
    | @lst a xs _ hs0 ha0 =>
    refine ⟨.inl ⟨rfl, xs, L2.Same.seq r1.sub hs0⟩, ?_⟩
    refine ⟨w1, env, S1, _, r1, en.mono e1, t1, fun w2 u c H2 S2 e2 r2 p2 t2 => ?_⟩
    split at t2
    · rename_i k
      obtain ⟨ns, rfl, hk, t2⟩ := t2
      have hx := dpInts ha0
      subst hx
      have hu' := dp_int p2
      subst hu'
      exact ⟨a, ns, k, rfl, rfl, L2.Same.seq r2.sub (L2.Same.seq e2.h hs0), hk, (q.mono (e1.trans e2)).int r2 t2⟩
    · exact t2.elim
end
end L3

namespace L3
open PySem PySem.Spec PyProof.Rows L2
/-! ### own lists of own lists -/
abbrev LrR (K : PySem.W.Frag) (w : W3) (n : Nat) : V → D → Prop := fun v d => RepD K w v d ∧ under n d
def lls3 (S : S3) : D → Option (Nat × List D)
  | .loc n => match S[n]? with
    | some (some (.lls ds)) => some (n, ds)
    | _ => none
  | _ => none
theorem lls3_low {K : PySem.W.Frag} {w : W3} {H : Hp} {S : S3} {v : V} {d : D} {n : Nat} {ds : List D} (r : Rel3 K w H S) (p : RepD K w v d) (h : lls3 S d = some (n, ds)) :
    ∃ a xs, v = .ref a ∧ d = .loc n ∧ w.al[n]? = some a ∧ S[n]? = some (some (.lls ds)) ∧ H a = some (.lst xs) ∧ Paired (LrR K w n) xs ds ∧ ds.length ≤ sizeLine := by
  unfold lls3 at h
  split at h
  · split at h
    · rename_i es hs
      cases h
      obtain ⟨a, ha, rfl⟩ := p
      obtain ⟨_, u, hu, xs, rfl, hp, hz⟩ := r.live n a _ ha hs
      exact ⟨a, xs, rfl, rfl, ha, hs, hu, hp, hz⟩
    · cases h
  · cases h
theorem lp_mono {K : PySem.W.Frag} {w w' : W3} {n n' : Nat} (e : Ex0 w w') (hn : n ≤ n') {xs : List V} {ds : List D} (h : Paired (LrR K w n) xs ds) : Paired (LrR K w' n') xs ds := Paired.mapP h fun v d z => ⟨z.1.mono0 e, by
  cases d with
  | p d => trivial
  | exc c => trivial
  | loc m => exact Nat.lt_of_lt_of_le z.2 hn⟩
theorem lp_snoc {K : PySem.W.Frag} {w : W3} {n : Nat} {v : V} {d : D} (hd : LrR K w n v d) : ∀ {xs : List V} {ds : List D}, Paired (LrR K w n) xs ds → Paired (LrR K w n) (xs ++ [v]) (ds ++ [d])
  | _, _, .nil => .cons hd .nil
  | _, _, .cons r rs => .cons r (lp_snoc hd rs)
theorem lp_len {K : PySem.W.Frag} {w : W3} {n : Nat} : ∀ {xs : List V} {ds : List D}, Paired (LrR K w n) xs ds → xs.length = ds.length
  | _, _, .nil => rfl
  | _, _, .cons _ rs => congrArg (· + 1) (lp_len rs)
/-- name = [e for ..], each e an own list -/
def tSetLL3 (y : Nat) (ti : TI3) (T : Tg) (tt : TT3) (te : TE3) (vs : List Nat) : TS3 := fun D env S => ti env S fun xs ok S1 => ∃ I : Nat → List L3.D → S3 → Prop, I 0 [] S1 ∧ (∀ i acc s, I i acc s → ok s) ∧
  (∀ i x acc s, xs[i]? = some x → I i acc s → match bind3 T x (wipe3 env vs) with
    | some e2 => tt e2 s fun b s1 => if b = true then te e2 s1 fun y s2 => s.length ≤ s2.length ∧ under s2.length y ∧ I (i + 1) (acc ++ [y]) s2 else s.length ≤ s1.length ∧ I (i + 1) acc s1
    | none => False) ∧ ∀ acc s, I xs.length acc s → D.nx (set3 env y (.loc s.length)) (s ++ [some (.lls acc)])
theorem ll_low {K : PySem.W.Frag} {ti : TI3} {T : Tg} {tt : TT3} {te : TE3} {vs : List Nat} {σ : L2.St} {H : Hp} {R : VK} {y : Nat} {D2 : Ends} (hv : ∀ i ∈ T.slots, i ∈ vs) (h : ∃ w env S D3, Rel3 K w H S ∧ EnvR K w σ env ∧ tSetLL3 y ti T tt te vs D3 env S ∧ EndS K w D3 D2) : tLc (lowI K ti) (g2 K T) (lowT K tt) (low K te) vs σ H fun x H1 => gName y x σ H1 D2.nx := by
  obtain ⟨w, env, S, D3, r0, en, t, q⟩ := h
  refine ⟨w, env, S, _, r0, en, t, fun w1 J H1 S1 xs ok e1 r1 hJ hz t1 => fun D hD => ?_⟩
  obtain ⟨I, h0, hok, hs, hd⟩ := t1
  refine ⟨fun i m H => i ≤ xs.length ∧ m = xs.length - i ∧ ∃ al h s acc ys, Ex0 w1 ⟨al, h, (D, .lst ys) :: w1.pn⟩ ∧ Rel3 K ⟨al, h, (D, .lst ys) :: w1.pn⟩ H s ∧ Paired (LrR K ⟨al, h, (D, .lst ys) :: w1.pn⟩ s.length) ys acc ∧ acc.length ≤ i ∧ I i acc s,
    ⟨_, Nat.zero_le _, rfl, w1.al, w1.h, S1, [], [], ⟨⟨[], by simp⟩, Same.refl _⟩, r1.pinNew hD, .nil, Nat.le_refl _, h0⟩, ?_⟩
  rintro i m H2 ⟨hi, rfl, al, h, s, acc, ys, e2, r2, da, hacc, h2⟩
  obtain ⟨hstop, hgo⟩ := hJ _ H2 s e2 r2 (hok i acc s h2)
  by_cases hlt : i < xs.length
  · obtain ⟨go, hy⟩ := hgo i xs[i] (List.getElem?_eq_getElem hlt)
    refine .inr ⟨go, fun H' => ∃ al h s acc ys, Ex0 w1 ⟨al, h, (D, .lst ys) :: w1.pn⟩ ∧ Rel3 K ⟨al, h, (D, .lst ys) :: w1.pn⟩ H' s ∧ Paired (LrR K ⟨al, h, (D, .lst ys) :: w1.pn⟩ s.length) ys acc ∧ acc.length ≤ i + 1 ∧ I (i + 1) acc s,
      fun H' ⟨al, h, s, acc, ys, a1, a2, a3, a4, a5⟩ => ⟨xs.length - (i + 1), by omega, hlt, rfl, al, h, s, acc, ys, a1, a2, a3, a4, a5⟩, fun x H' y => ?_⟩
    obtain ⟨w3, e3, r3, d3⟩ := hy x H' y
    have step := hs i xs[i] acc s (List.getElem?_eq_getElem hlt) h2
    cases hbd : bind3 T xs[i] (wipe3 env vs) with
    | none => rw [hbd] at step; exact step.elim
    | some env3 =>
      rw [hbd] at step
      have en3 : EnvR K w3 (wipe σ vs) (wipe3 env vs) := (((en.mono e1).mono0 e2).mono e3).wipe vs
      refine bind_low r3 vs T xs[i] x _ _ env3 hv en3 d3 hbd _ fun σ3 en4 hw => ⟨?_, ?_⟩
      · have ww : ∀ vs' : List Nat, (∀ i ∈ vs', i ∈ vs) → wipe (wipe σ vs) vs' = wipe σ vs := by
          intro vs'
          induction vs' with
          | nil => intro _; rfl
          | cons v vs' ih =>
            intro hsub
            show (wipe (wipe σ vs) vs').set v none = wipe σ vs
            rw [ih fun i hi => hsub i (List.mem_cons_of_mem _ hi)]
            have : ∀ (vs : List Nat), v ∈ vs → (wipe σ vs).set v none = wipe σ vs := by
              intro vs
              induction vs with
              | nil => intro h; cases h
              | cons u vs ih =>
                intro hm
                show ((wipe σ vs).set u none).set v none = (wipe σ vs).set u none
                by_cases e : v = u
                · subst e
                  rw [List.set_set]
                · have hm' : v ∈ vs := (List.mem_cons.mp hm).resolve_left e
                  rw [List.set_comm _ _ (Ne.symm e), ih hm']
            exact this vs (hsub v List.mem_cons_self)
        exact hw.trans (ww vs fun _ h => h)
      · refine ⟨w3, env3, s, _, r3, en4, step, fun w4 b H4 s4 e4 r4 t4 => ?_⟩
        obtain ⟨al4, h4, pn4⟩ := w4
        have hpn : pn4 = (D, .lst ys) :: w1.pn := by
          have a := e4.pn
          have b := e3.pn
          exact a.trans b
        subst hpn
        have e24 : Ex0 w1 ⟨al4, h4, (D, .lst ys) :: w1.pn⟩ := (e2.trans e3.toEx0).trans e4.toEx0
        cases b with
        | false =>
          rw [if_neg Bool.false_ne_true] at t4 ⊢
          exact ⟨al4, h4, s4, acc, ys, e24, r4, lp_mono (e3.toEx0.trans e4.toEx0) t4.1 da, by omega, t4.2⟩
        | true =>
          rw [if_pos rfl] at t4 ⊢
          refine ⟨_, env3, s4, _, r4, en4.mono e4, t4, fun w5 v d H5 s5 e5 r5 p5 t5 => ?_⟩
          obtain ⟨al5, h5, pn5⟩ := w5
          have hpn : pn5 = (D, .lst ys) :: w1.pn := e5.pn
          subst hpn
          have hl := lp_len da
          obtain ⟨t51, t52, t53⟩ := t5
          refine ⟨ys, (r5.pin D _ List.mem_cons_self).1, by omega, al5, h5, s5, acc ++ [d], ys ++ [v], ?_, r5.repin, ?_, ?_, t53⟩
          · exact ⟨(e24.trans e5.toEx0).al, (e24.trans e5.toEx0).h⟩
          · have da5 := lp_mono (n' := s5.length) ((e3.toEx0.trans e4.toEx0).trans e5.toEx0) t51 da
            have := lp_snoc (d := d) (v := v) ⟨p5, t52⟩ da5
            exact lp_mono (w := ⟨al5, h5, (D, .lst ys) :: w1.pn⟩) ⟨⟨[], by simp⟩, Same.refl _⟩ (Nat.le_refl _) this
          · rw [List.length_append, List.length_singleton]
            omega
  · have e' : i = xs.length := by omega
    subst e'
    obtain ⟨r3, hdn, hup⟩ := r2.unpin
    refine .inl ⟨hstop _ (Nat.le_refl _), ?_⟩
    rw [← hup]
    have da3 : Paired (LrR K ⟨al, h, w1.pn⟩ s.length) ys acc := lp_mono (w := ⟨al, h, (D, .lst ys) :: w1.pn⟩) ⟨⟨[], by simp⟩, Same.refl _⟩ (Nat.le_refl _) da
    obtain ⟨r4, e4⟩ := r3.push (a := D) (u := .lst ys) (o := .lls acc) hdn ⟨ys, rfl, da3, by omega⟩
    have e12 : Ex3 w1 ⟨al, h, w1.pn⟩ := ⟨⟨e2.al, e2.h⟩, rfl⟩
    have e14 : Ex3 w ⟨al ++ [D], h, w1.pn⟩ := (e1.trans e12).trans e4
    have hS : al.length = s.length := r3.len
    refine q.nx _ _ _ _ _ e14 r4 ((en.mono e14).set (d := .loc s.length) y ⟨D, ?_, rfl⟩) (hd acc s h2)
    show (al ++ [D])[s.length]? = some D
    rw [← hS, List.getElem?_append_right (Nat.le_refl _)]
    simp
section
variable {X : Cx} {elt tg iter : Expr} {ifs : List Expr} {scope : Scope} {own : List (Str × Nat)} {pos : Pos} {ti : TI3} {T : Tg} {tt : TT3} {te : TE3}
theorem qs_setLL {i : Nat} {y : Str} {py spos : Pos} (hc : X.calm = true) (hN : X.N.Nodup) (hy : X.N[i]? = some y) (hyl : X.env.scope.names.lookup y = some .local)
    (hsw : swapsWith (.ListComp elt [⟨tg, iter, ifs, 0⟩] scope pos) (some (.Name y py)) spos.line X.env = pure true) (hi : QI X tg iter ti) (ok : BlkOk X.N X.env.scope scope own)
    (hg : ∀ (s : Shared) (H : Hp) (C : Addr) (cl : List (Str × Addr)) (fp : List Addr), QB (X.blk s H scope (compEnvC scope cl C X.env) fp) tg T) (ht : ∀ (s : Shared) (H : Hp) (C : Addr) (cl : List (Str × Addr)) (fp : List Addr), QTs (X.blk s H scope (compEnvC scope cl C X.env) fp) ifs tt)
    (he : ∀ (s : Shared) (H : Hp) (C : Addr) (cl : List (Str × Addr)) (fp : List Addr), QE (X.blk s H scope (compEnvC scope cl C X.env) fp) elt te) (hv : ∀ i ∈ T.slots, i ∈ own.map (·.2) := by decide) (hs : ∀ x, foldedSetIterable iter X.env x = pure x := by intro _; rfl) :
    QS X (.Assign [.Name y py] (.ListComp elt [⟨tg, iter, ifs, 0⟩] scope pos) spos) (tSetLL3 i ti T tt te (own.map (·.2))) := (ps_setLc hc hN hy hyl hsw hi ok hg ht he hs).imp fun D σ H ⟨w, env, S, D3, r0, en, t, q⟩ => ll_low (R := fun _ _ => True) hv ⟨w, env, S, D3, r0, en, t, q⟩
end
/-! xs[i], xs a list of own lists -/
theorem lp_get {K : PySem.W.Frag} {w : W3} {n : Nat} : ∀ {xs : List V} {ds : List D} {i : Nat} {d : D}, Paired (LrR K w n) xs ds → ds[i]? = some d → ∃ v, xs[i]? = some v ∧ RepD K w v d
  | _, _, i, _, .nil, e => by simp at e
  | _, _, 0, _, .cons r _, e => by
    simp at e
    subst e
    exact ⟨_, rfl, r.1⟩
  | _, _, i + 1, d, .cons _ rs, e => by
    obtain ⟨v, h1, h2⟩ := lp_get (i := i) rs (by simpa using e)
    exact ⟨v, by simpa using h1, h2⟩
def rIxL3 : R3 := fun x y S Q => match lls3 S x, y with
  | some (_, ds), .p (.int i) => (match ixN ds.length i with
    | some j => (match ds[j]? with
      | some d => Q d S
      | none => False)
    | none => False)
  | _, _ => False
theorem iq_lls {X : Cx} : IQ X rIxL3 := IxR.imp ix_seq fun x y H R ⟨w, S, d, e, Q, r0, p1, p2, t, q⟩ => by
  unfold rIxL3 at t
  split at t
  · rename_i n ds i h1
    have hy := dp_int p2
    subst hy
    split at t
    · rename_i j hj
      split at t
      · rename_i d' hd'
        obtain ⟨a, xs, rfl, rfl, ha, hs, hu, hp, hz⟩ := lls3_low r0 p1 h1
        obtain ⟨v, h2, h3⟩ := lp_get hp hd'
        refine .inl ⟨a, xs, _, v, rfl, rfl, .inl (.inl hu), ?_, q.old (d := d') r0 h3 t⟩
        unfold atI
        rw [lp_len hp, hj]
        exact h2
      · exact t.elim
    · exact t.elim
  · exact t.elim
/-! a list of own lists is said to change no more, with all that stands in it -/
theorem Rel3.freezeG {K : PySem.W.Frag} {w : W3} {H : Hp} {S : S3} (r : Rel3 K w H S) {n : Nat} {a : Addr} {o : O3} {xs : List V} {ds : List PyData} (ha : w.al[n]? = some a) (hs : S[n]? = some (some o)) (hu : H a = some (.lst xs)) (hd : DpAll K w.h xs ds) (hz : ds.length ≤ sizeLine) :
    Rel3 K ⟨w.al, upd w.h a (.lst xs), w.pn⟩ H (S.set n none) ∧ Ex3 w ⟨w.al, upd w.h a (.lst xs), w.pn⟩ ∧ Dp K (upd w.h a (.lst xs)) (.ref a) (.list ds) := by
  obtain ⟨hw, _⟩ := r.live n a _ ha hs
  have hlen : n < S.length := (List.getElem?_eq_some_iff.mp hs).1
  have sm : Same w.h (upd w.h a (.lst xs)) := fun b o e => by
    rw [upd_ne (ne_of_none e hw)]
    exact e
  have ex : Ex3 w ⟨w.al, upd w.h a (.lst xs), w.pn⟩ := ⟨⟨⟨[], by simp⟩, sm⟩, rfl⟩
  have other : ∀ m b, w.al[m]? = some b → m ≠ n → b ≠ a := fun m b e hm z => by
    subst z
    obtain ⟨h1, e1⟩ := List.getElem?_eq_some_iff.mp e
    obtain ⟨h2, e2⟩ := List.getElem?_eq_some_iff.mp ha
    exact hm ((List.getElem_inj r.nd).mp (e1.trans e2.symm))
  refine ⟨⟨fun b x e => ?_, fun b x e => ?_, by simp [r.len], fun m b x e q => ?_, fun m b e q => ?_, r.nd, fun b o hb => ?_, r.pnd⟩, ex, .lst (.inl (.inl upd_same)) (dpAll_mono sm ds xs hd)⟩
  · have e' : upd w.h a (.lst xs) b = some x := e
    by_cases hb : b = a
    · subst hb
      rw [upd_same] at e'
      cases e'
      exact hu
    · rw [upd_ne hb] at e'
      exact r.sub b x e'
  · have e' : upd w.h a (.lst xs) b = some x := e
    by_cases hb : b = a
    · subst hb
      rw [upd_same] at e'
      cases e'
      show xs.length ≤ sizeLine
      rw [DpAll.length hd]
      exact hz
    · rw [upd_ne hb] at e'
      exact r.sz b x e'
  · by_cases hm : m = n
    · subst hm
      rw [List.getElem?_set_self hlen] at q
      cases q
    · rw [List.getElem?_set_ne (Ne.symm hm)] at q
      obtain ⟨h1, y, h2, h3⟩ := r.live m b x e q
      exact ⟨by show upd w.h a (.lst xs) b = none; rw [upd_ne (other m b e hm)]; exact h1, y, h2, h3.mono ex.toEx0⟩
  · by_cases hm : m = n
    · subst hm
      have : b = a := Option.some.inj (e.symm.trans ha)
      subst this
      exact ⟨_, upd_same⟩
    · rw [List.getElem?_set_ne (Ne.symm hm)] at q
      obtain ⟨y, h1⟩ := r.dead m b e q
      exact ⟨y, sm b y h1⟩
  · obtain ⟨h1, h2, h3⟩ := r.pin b o hb
    have nb : b ≠ a := fun z => h3 (by rw [z]; exact List.mem_of_getElem? ha)
    exact ⟨h1, by show upd w.h a (.lst xs) b = none; rw [upd_ne nb]; exact h2, h3⟩
def noneAll (S : S3) : List Nat → S3
  | [] => S
  | n :: ns => noneAll (S.set n none) ns
theorem noneAll_other {n : Nat} : ∀ {ns : List Nat} {S : S3}, n ∉ ns → (noneAll S ns)[n]? = S[n]?
  | [], _, _ => rfl
  | m :: ns, S, h => by
    have h1 : n ≠ m := fun z => h (by rw [z]; exact List.mem_cons_self)
    have h2 : n ∉ ns := fun z => h (List.mem_cons_of_mem _ z)
    show (noneAll (S.set m none) ns)[n]? = _
    rw [noneAll_other h2, List.getElem?_set_ne (Ne.symm h1)]
theorem freeze_all {K : PySem.W.Frag} {H : Hp} : ∀ {ns : List Nat} {dss : List (List PyData)} {xs : List V} {w : W3} {S : S3}, Rel3 K w H S → (∀ (j : Nat) (n : Nat) (ds : List PyData), ns[j]? = some n → dss[j]? = some ds → S[n]? = some (some (.lst ds))) → ns.length = dss.length → ns.Nodup → Paired (fun v n => RepD K w v (.loc n)) xs ns →
    ∃ w', Rel3 K w' H (noneAll S ns) ∧ Ex3 w w' ∧ DpAll K w'.h xs (dss.map PyData.list)
  | [], [], _, w, S, r, _, _, _, .nil => ⟨w, r, Ex3.refl w, .nil⟩
  | n :: ns, ds :: dss, _, w, S, r, hs, hl, nd, .cons (a := v) (l₁ := xs) p ps => by
    obtain ⟨a, ha, rfl⟩ := p
    obtain ⟨n1, n2⟩ := List.nodup_cons.mp nd
    have h0 := hs 0 n ds rfl rfl
    obtain ⟨u, r1, e1, d1⟩ := r.freeze ha h0
    obtain ⟨w', r2, e2, d2⟩ := freeze_all (ns := ns) (dss := dss) (xs := xs) r1 (fun j m es h1 h2 => by
      have h3 := hs (j + 1) m es (by simpa using h1) (by simpa using h2)
      have hm : m ≠ n := fun z => n1 (by rw [← z]; exact List.mem_of_getElem? h1)
      rw [List.getElem?_set_ne (Ne.symm hm)]
      exact h3) (by simpa using hl) n2 (Paired.mapP ps fun v m z => z.mono e1)
    exact ⟨w', r2, e1.trans e2, .cons (dp_mono e2.h _ _ d1) d2⟩
def tFrzL3 (i : Nat) (u : TS3) : TS3 := fun D env S => match at3 env i with
  | some (.loc n) => ∃ (ns : List Nat) (dss : List (List PyData)), S[n]? = some (some (.lls (ns.map L3.D.loc))) ∧ ns.length = dss.length ∧ ns.Nodup ∧ n ∉ ns ∧ (∀ (j : Nat) (m : Nat) (ds : List PyData), ns[j]? = some m → dss[j]? = some ds → S[m]? = some (some (.lst ds))) ∧ u D (set3 env i (.p (.list (dss.map PyData.list)))) ((noneAll S ns).set n none)
  | _ => False
theorem lp_locs {K : PySem.W.Frag} {w : W3} {n : Nat} : ∀ {ns : List Nat} {xs : List V}, Paired (LrR K w n) xs (ns.map D.loc) → Paired (fun v m => RepD K w v (.loc m)) xs ns
  | [], _, .nil => .nil
  | m :: ns, _, .cons r rs => .cons r.1 (lp_locs rs)
section
variable {X : Cx} {rest : List Stmt} {u : TS3}
theorem qss_frzL (i : Nat) (h : QSs X rest u) : QSs X rest (tFrzL3 i u) := L2.PSs.imp h fun D σ H ⟨w, env, S, D3, r, en, t, q⟩ => by
  unfold tFrzL3 at t
  split at t
  · rename_i n hn
    obtain ⟨ns, dss, hs, hl, nd, hnn, hin, t⟩ := t
    obtain ⟨v, hv, a, ha, rfl⟩ := en.2 i _ hn
    obtain ⟨_, x, hu, xs, rfl, hp, hz⟩ := r.live n a _ ha hs
    obtain ⟨w', r1, e1, d1⟩ := freeze_all r hin hl nd (lp_locs hp)
    obtain ⟨al', h', pn'⟩ := w'
    have ha' : al'[n]? = some a := by
      obtain ⟨t', ht'⟩ := e1.al
      have ht2 : al' = w.al ++ t' := ht'
      rw [ht2, List.getElem?_append_left (List.getElem?_eq_some_iff.mp ha).1]
      exact ha
    have hs' : (noneAll S ns)[n]? = some (some (.lls (ns.map L3.D.loc))) := by rw [noneAll_other hnn]; exact hs
    obtain ⟨r2, e2, d2⟩ := r1.freezeG ha' hs' hu d1 (by
      rw [List.length_map] at hz ⊢
      omega)
    exact ⟨_, _, _, D3, r2, (en.mono (e1.trans e2)).put (d := .p (.list (dss.map PyData.list))) hv d2, t, q.mono (e1.trans e2)⟩
  · exact t.elim
end
end L3

namespace L3
open PySem PySem.Spec PyProof.Rows L2
/-! ### max of a tuple of ints -/
open PySem.W in
theorem max_tuple_ix {prog : Program} {w : World} {A : Around} {E : Value → Shared → Prop} {s : Shared} {l : Addr} {vs : Array Value} {x : PyData} {xs : List PyData} {as : List Addr} {Q : Value → Shared → Prop} (hh : A.handled = none) (hl : s.heap.IsTuple l vs) (hr : ReadsAll s.heap vs.toList (x :: xs) as) (ha : AlikeAll (x :: xs)) (hu : A.units + 1 + PyData.depthAll (x :: xs) < cLine)
    (h : ∀ (i : Nat) v h' tk, i < xs.length + 1 → vs[i]? = some v → (x :: xs).getD i .none = maxD x xs → (∀ b o, s.heap.get? b = some o → h'.get? b = some o) → Q v { s with heap := h', toks := tk }) :
    wpAny (model prog w) A (call (.builtin "max") [.ref l]) Q E s := by
  have hn : vs.size = xs.length + 1 := readsAll_len hr
  refine call_max_walkH (iter_tupleW (A := A.in1) hh hl fun s₂ e W st hfp hw hk => ?_)
  refine ⟨_, _, _, _, _, _, _, s.heap, _, rfl, W, st, hfp, by omega, hw, hk, cmpIn_gt (A := A.in1) hr ha (by show A.units + 1 + _ < _; exact hu), fun v s' hP m => ?_⟩
  obtain ⟨h', tk, rfl, hk'⟩ := moved_old e rfl m
  have e1 : vs.size - 1 = xs.length := by omega
  have e2 := argBest_fold (fun a b => dataLt b a) PyData.none x xs xs.length (Nat.le_refl _)
  rw [List.take_length] at e2
  rw [e1] at hP
  exact h _ v h' tk (Nat.lt_succ_of_le e2.1) hP (by unfold maxD; exact e2.2) hk'
theorem maxD_ints : ∀ (ns : List Int) (n : Int), PySem.W.maxD (.int n) (ns.map PyData.int) = .int (ns.foldl (fun a b => if b > a then b else a) n)
  | [], n => rfl
  | k :: ns, n => by
    have ih := maxD_ints ns
    unfold PySem.W.maxD at ih ⊢
    rw [List.map_cons, List.foldl_cons, List.foldl_cons, ← ih]
    congr 1
    rw [PySem.W.dataLt_int]
    by_cases h : n < k
    · simp [h]
    · simp [h]
theorem depthAll_ints0 : ∀ ws : List Int, PyData.depthAll (ws.map PyData.int) = 0
  | [] => by rw [List.map_nil]; unfold PyData.depthAll; rfl
  | w :: ws => by
    rw [List.map_cons]
    unfold PyData.depthAll
    rw [depthAll_ints0 ws]
    rfl
theorem cr_maxT {X : Cx} (hc : X.calm = true) (hu : X.A.units + 64 < cLine) : CallR X (.builtin "max") (fun xs H Q => ∃ (a : Addr) (n : Int) (ns : List Int), xs = [V.ref a] ∧ SqT X.K H a ((n :: ns).map V.int) ∧ Q (.int (maxI (n :: ns))) H) := by
  intro pins s σ H vs us Q I r h
  obtain ⟨a, n, ns, rfl, hs, q⟩ := h
  obtain ⟨its, rv, hl, _⟩ := I.tuple hs
  rw [Vals.ref1 r]
  obtain ⟨as, hr⟩ := dpAll_reads I rv (dpAll_ints (n :: ns))
  refine max_tuple_ix (x := .int n) (xs := ns.map PyData.int) (I.ok.hd hc) hl hr ⟨fun x hx y hy => ?_, fun x hx => ?_⟩ (by rw [show PyData.int n :: ns.map PyData.int = (n :: ns).map PyData.int from rfl, depthAll_ints0]; omega) fun i v h' tk hi hv hm hk => ?_
  · have hx' : x ∈ (n :: ns).map PyData.int := hx
    have hy' : y ∈ (n :: ns).map PyData.int := hy
    obtain ⟨i, _, rfl⟩ := List.mem_map.mp hx'
    obtain ⟨j, _, rfl⟩ := List.mem_map.mp hy'
    rfl
  · have hx' : x ∈ (n :: ns).map PyData.int := hx
    obtain ⟨i, _, rfl⟩ := List.mem_map.mp hx'
    exact fun h => by cases h
  · obtain ⟨y, hy, hrel⟩ := vals_ix rv i v (by simpa using hv)
    rw [List.getElem?_map] at hy
    obtain ⟨k, hk2, rfl⟩ := Option.map_eq_some_iff.mp hy
    rw [maxD_ints] at hm
    have e : k = maxI (n :: ns) := by
      have h1 : (PyData.int n :: ns.map PyData.int).getD i .none = .int k := by
        rw [show PyData.int n :: ns.map PyData.int = (n :: ns).map PyData.int from rfl, List.getD_eq_getElem?_getD, List.getElem?_map, hk2]
        rfl
      rw [h1] at hm
      cases hm
      rfl
    subst e
    exact ⟨.int _, H, I.kept hk, hrel, q⟩
def rMaxT3 : C3 := fun ds S Q => match ds with
  | [.p (.tuple ds)] => (match allP int? ds with
    | some (n :: ns) => Q (.p (.int (maxI (n :: ns)))) S
    | _ => False)
  | _ => False
theorem cq_maxT {X : Cx} (hc : X.calm = true) (hu : X.A.units + 64 < cLine) : CQ X (.builtin "max") rMaxT3 := callq (cr_maxT hc hu) fun w S ds xs H Q R r0 p1 t q => by
  unfold rMaxT3 at t
  split at t
  · obtain ⟨v, rfl, p⟩ := rds1 p1
    split at t
    · rename_i n ns h1
      have p' := dp_mono r0.sub _ _ p
      rw [allP_int h1] at p'
      obtain ⟨a, ys, rfl, hq, ha⟩ := dp_tup_ref p'
      rw [dp_ints ha] at hq
      exact ⟨a, n, ns, rfl, hq, q.int r0 t⟩
    · exact t.elim
  · exact t.elim
end L3

namespace L3
open PySem PySem.Spec PyProof.Rows L2
/-! ### dict(pairs) whose keys are tuples; sorted(d) and len(d) of such a dict -/
def mergeT {β : Type} (kvs more : List (List Key × β)) : List (List Key × β) := more.foldl (fun acc kv => putE acc kv.1 kv.2) kvs
def mergeTV (kvs more : List (List Key × V)) : List (List Key × V) := more.foldl (fun acc kv => putK acc kv.1 kv.2) kvs
/-- a pair at p: the key's tuple at b, the value -/
abbrev PairT (K : PySem.W.Frag) (H : Hp) : Addr × Addr → List Key × V → Prop := fun p kv => SqT K H p.1 [.ref p.2, kv.2] ∧ H p.2 = some (.tup (kv.1.map kV))
section
variable {X : Cx}
theorem pairsT_of {pins : List (Addr × Obj)} {σ : L2.St} {H : Hp} {s : Shared} (I : L2.Inv X pins σ H s) : ∀ {ps : List (Addr × Addr)} {kvs : List (List Key × V)}, Paired (PairT X.K H) ps kvs →
    ∃ us : List Value, us.length = ps.length ∧ (∀ (j : Nat) (p : Addr × Addr) (u : Value), ps[j]? = some p → us[j]? = some u → IsTup s.heap p.1 #[.ref p.2, u]) ∧
      ∃ xs : List (List Key × Addr × Value), KT H kvs xs ∧ xs.length = ps.length ∧ ∀ (j : Nat) (p : Addr × Addr) (u : Value), ps[j]? = some p → us[j]? = some u → ∃ k, xs[j]? = some (k, p.2, u)
  | _, _, .nil => ⟨[], rfl, fun j p u e => by simp at e, [], .nil, rfl, fun j p u e => by simp at e⟩
  | _, _, .cons (a := p) (b := kv) h t => by
    obtain ⟨us, hl, hp, xs, hk, hx, hxs⟩ := pairsT_of I t
    obtain ⟨its, rv, ht, _⟩ := I.tuple h.1
    obtain ⟨u, y, ei, ru, ry⟩ := vals2 rv
    subst ei
    cases ru
    refine ⟨y :: us, by rw [List.length_cons, List.length_cons, hl], fun j q u e1 e2 => ?_, (kv.1, p.2, y) :: xs, .cons ⟨rfl, h.2, ry⟩ hk, by rw [List.length_cons, List.length_cons, hx], fun j q u e1 e2 => ?_⟩
    · cases j with
      | zero =>
        simp at e1 e2
        subst e1 e2
        exact ht
      | succ j => exact hp j q u (by simpa using e1) (by simpa using e2)
    · cases j with
      | zero =>
        simp at e1 e2
        subst e1 e2
        exact ⟨kv.1, rfl⟩
      | succ j => exact hxs j q u (by simpa using e1) (by simpa using e2)
theorem KT.storeAll {H : Hp} : ∀ {more : List (List Key × V)} {rs : List (List Key × Addr × Value)} {kvs : List (List Key × V)} {vs : List (List Key × Addr × Value)}, KT H more rs → KT H kvs vs → KT H (mergeTV kvs more) (storedAllH vs rs)
  | _, _, _, _, .nil, q => q
  | _, _, _, _, .cons h t, q => by
    obtain ⟨h1, h2, h3⟩ := h
    show KT H (mergeTV (putK _ _ _) _) (storedAllH (storedH _ _ _ _) _)
    rw [← h1]
    exact KT.storeAll t (q.put _ h2 h3)
theorem kt_is {P : Program} {w : World} {H : Hp} {h : Heap} (ok : HOk P w H h) : ∀ {kvs : List (List Key × V)} {xs : List (List Key × Addr × Value)}, KT H kvs xs → ∀ x ∈ xs, (tupleKind (mixKind P w)).is h x.1 x.2.1
  | _, _, .nil, x, hx => nomatch hx
  | _, _, .cons (a := p) (b := q) h t, x, hx => by
    rcases List.mem_cons.mp hx with e | hx
    · subst e
      exact key_of ok (by rw [← h.1]; exact h.2.1)
    · exact kt_is ok t x hx
theorem mergeTV_length : ∀ (more kvs : List (List Key × V)), (mergeTV kvs more).length ≤ kvs.length + more.length
  | [], _ => Nat.le_refl _
  | p :: more, kvs => by
    have h1 := mergeTV_length more (putK kvs p.1 p.2)
    have h2 : (putK kvs p.1 p.2).length ≤ kvs.length + 1 := by
      unfold putK
      split <;> simp
    show (mergeTV (putK kvs p.1 p.2) more).length ≤ _
    simp only [List.length_cons]
    omega
theorem nodup_entries {w : World} {P : Program} {h : Heap} {a : Addr} {xs : List (List Key × Addr × Value)} (d : h.DictOfH (tupleKind (mixKind P w)) a xs) : ∃ o es ep, h.get? a = some o ∧ o.ExactDict ∧ o.data = .dict es ep ∧ es.toList = xs.map (entryOfKey (tupleKind (mixKind P w))) ∧ (xs.map (·.1)).Nodup := by
  obtain ⟨o, es, ep, h1, h2, h3, h4, _, h5⟩ := d
  exact ⟨o, es, ep, h1, h2, h3, h4, h5⟩
/-- dict(xs) of a list of pairs whose keys are tuples -/
theorem call_dictPT (hcalm : X.calm = true) (hu : X.A.units + 64 < cLine) : CallR X (.type "dict") (fun xs H Q => ∃ (a : Addr) (ps : List (Addr × Addr)) (kvs : List (List Key × V)), xs = [.ref a] ∧ SqL X.K H a (ps.map fun p => V.ref p.1) ∧ Paired (PairT X.K H) ps kvs ∧
    ∀ p, H p = none → Q (.ref p) (upd H p (.dT (mergeTV [] kvs)))) := by
  intro pins s σ H xs us Q I r q
  obtain ⟨a, ps, kvs, ex, hq, hp, q⟩ := q
  subst ex
  obtain ⟨u, eu, rx⟩ := vals1 r
  subst eu
  cases rx
  obtain ⟨its, rv, pl, hz⟩ := I.list hq
  have ei : its = (ps.map (·.1)).map Value.ref := refs_at (ps := ps.map (·.1)) (by rw [List.map_map]; exact rv)
  subst ei
  rw [List.length_map] at hz
  obtain ⟨us, hl, hpr, ys, hk, hx, hys⟩ := pairsT_of I hp
  obtain ⟨o, n, ho, hc, hd, hdat⟩ := pl
  have hzip : ∀ (j : Nat) (k v : Value), ((ps.map fun p => Value.ref p.2).zip us)[j]? = some (k, v) → ∃ p, ps[j]? = some p ∧ k = .ref p.2 ∧ us[j]? = some v := by
    intro j k v e
    obtain ⟨h1, h2⟩ := List.getElem?_zip_eq_some.mp e
    rw [List.getElem?_map] at h1
    cases hpj : ps[j]? with
    | none => rw [hpj] at h1; cases h1
    | some p =>
      rw [hpj] at h1
      exact ⟨p, rfl, (Option.some.inj h1).symm, h2⟩
  have hlen : ((ps.map fun p => Value.ref p.2).zip us).length = ps.length := by
    rw [List.length_zip, List.length_map, hl, Nat.min_self]
  have harr : ∀ (j : Nat) (p : Addr × Addr), ps[j]? = some p → ((ps.map (·.1)).map Value.ref).toArray[j]? = some (Value.ref p.1) := by
    intro j p e
    rw [List.getElem?_toArray, List.getElem?_map, List.getElem?_map, e]
    all_goals rfl
  refine call_dict_pairsH (knd := tupleKind (mixKind X.prog X.w)) (ps := ys) (Q := EP X pins σ Q) (PairArg.list a ((ps.map (·.1)).map Value.ref).toArray (fun j => ((ps.map (·.1))[j]?).getD 0) ((ps.map fun p => Value.ref p.2).zip us)) (I.ok.hd hcalm) (by show X.A.units + 1 + 1 < cLine; omega)
    ⟨⟨o, n, ho, hc, hd, hdat⟩, by simp [hl], fun j k v e => ?_⟩ ⟨by rw [hx, hlen], fun j k v e => ?_⟩ (fun h' hk' x hx' => ?_) (by rw [hlen]; exact hz) fun h' tk hd' k => ?_
  · obtain ⟨p, e1, rfl, e2⟩ := hzip j k v e
    have e3 : ((ps.map (·.1))[j]?).getD 0 = p.1 := by rw [List.getElem?_map, e1]; rfl
    simp only [e3]
    obtain ⟨ob, h1, h2, m, h3⟩ := hpr j p v e1 e2
    exact ⟨harr j p e1, .inl ⟨ob, h1, h2, m, h3⟩⟩
  · obtain ⟨p, e1, rfl, e2⟩ := hzip j k v e
    obtain ⟨k', e3⟩ := hys j p v e1 e2
    exact ⟨k', p.2, e3, rfl⟩
  · obtain ⟨ob, its', m, h1, h2⟩ := kt_is I.hok hk x hx'
    exact ⟨ob, its', m, hk' _ _ (Nat.ne_of_lt (Heap.lt_size h1)) (fun z => nomatch z) h1, h2⟩
  · have hm : (s.heap.objs.size == sysModules) = false := beq_eq_false_iff_ne.mpr (Nat.ne_of_gt I.big)
    have hkl : kvs.length = ps.length := (Paired.length hp).symm
    have hlen2 : (mergeTV [] kvs).length ≤ sizeLine := by
      refine Nat.le_trans (mergeTV_length kvs []) ?_
      rw [List.length_nil, Nat.zero_add, hkl]
      simpa using hz
    have hkt : KT H (mergeTV [] kvs) (storedAllH [] ys) := KT.storeAll hk .nil
    have hn := I.hok.fresh (a := s.heap.objs.size) (Nat.le_refl _)
    have hkt' : KT (upd H s.heap.objs.size (.dT (mergeTV [] kvs))) (mergeTV [] kvs) (storedAllH [] ys) := hkt.keeps fun b zs e => by
      rw [upd_ne (fun z => by subst z; rw [hn] at e; cases e)]
      exact e
    obtain ⟨ob, es, ep, g⟩ := nodup_entries hd'
    exact ⟨V.ref s.heap.objs.size, upd H s.heap.objs.size (.dT (mergeTV [] kvs)), I.laid (t' := tk) (fun b o e => k b o (fun z => nomatch z) e) (Nat.le_refl _) (show ObjOk X.prog X.w _ _ _ (.dT (mergeTV [] kvs)) from ⟨hlen2, hm, storedAllH [] ys, hkt', ob, es, ep, g⟩), rfl, q _ hn⟩

/-- the key as data -/
def keyPd (k : List Key) : PyData := .tuple (k.map datK)
theorem dp_datK {K : PySem.W.Frag} {H : Hp} : ∀ k : Key, Dp K H (kV k) (datK k)
  | .inl i => .int i
  | .inr x => .str x
theorem dp_datKs {K : PySem.W.Frag} {H : Hp} : ∀ ks : List Key, DpAll K H (ks.map kV) (ks.map datK)
  | [] => .nil
  | k :: ks => .cons (dp_datK k) (dp_datKs ks)
theorem dp_keyPd {K : PySem.W.Frag} {H : Hp} {b : Addr} {k : List Key} (h : H b = some (.tup (k.map kV))) : Dp K H (.ref b) (keyPd k) := .tup (.inl (.inl h)) (dp_datKs k)
/-- the tuples that are a dict's keys, in order -/
abbrev KeysAt (H : Hp) : List (List Key × V) → List Addr → Prop := Paired fun p b => H b = some (.tup (p.1.map kV)) ∧ p.1.length ≤ sizeLine
theorem keysAt_of {P : Program} {w : World} {H : Hp} {h : Heap} (ok : HOk P w H h) : ∀ {kvs : List (List Key × V)} {xs : List (List Key × Addr × Value)}, KT H kvs xs → KeysAt H kvs (xs.map fun x => x.2.1)
  | _, _, .nil => .nil
  | _, _, .cons (a := p) (b := q) h t => by
    refine .cons ⟨h.2.1, ?_⟩ (keysAt_of ok t)
    have := (show ObjOk P w H _ q.2.1 (.tup (p.1.map kV)) from ok _ _ h.2.1).1
    simpa using this
theorem dpAll_keys {K : PySem.W.Frag} {H : Hp} : ∀ {kvs : List (List Key × V)} {bs : List Addr}, KeysAt H kvs bs → DpAll K H (bs.map V.ref) (kvs.map fun p => keyPd p.1)
  | _, _, .nil => .nil
  | _, _, .cons h t => .cons (dp_keyPd h.1) (dpAll_keys t)
open PySem.W in
def rSortedT : List V → Hp → VK → Prop := fun vs H Q => ∃ (d : Addr) (kvs : List (List Key × V)), vs = [V.ref d] ∧ Rd H d (.dT kvs) ∧ AllAlike (kvs.map fun p => keyPd p.1) ∧ Sortable (kvs.map fun p => keyPd p.1) ∧ (∀ e ∈ kvs.map (fun p => keyPd p.1), e.depth ≤ 60) ∧
  ∀ p bs, H p = none → KeysAt H kvs bs → kvs.length ≤ sizeLine → Q (.ref p) (upd H p (.lst ((((bs.map V.ref).zip (kvs.map fun p => keyPd p.1)).mergeSort (dataLe false Prod.snd)).map (·.1))))
open PySem.W in
theorem cr_sortedT (hcalm : X.calm = true) (hu : X.A.units + 64 < cLine) : CallR X (.builtin "sorted") rSortedT := by
  intro pins s σ H vs us Q I r h
  obtain ⟨d, kvs, rfl, hd, hal, hk, hdep, q⟩ := h
  obtain ⟨u, rfl, rx⟩ := r.one
  cases rx
  obtain ⟨z, hs, ks, pr, o, es, ep, ho, hx, hdt, he, hn⟩ := (show ObjOk X.prog X.w H s.heap d (.dT kvs) from hd.ok I.hok)
  have l1 : es.size = ks.length := size_of_entries he
  have l2 : kvs.length = ks.length := Paired.length pr
  refine Calls.call_function_entry PyProof.Rows.kind_sorted PyProof.Rows.plain_sorted PyProof.Rows.entry_sorted (PyProof.Rows.args_sorted1 _) ?_
  unfold Builtin.«sorted»
  refine wpAny_bind (m := checkCount "sorted" 1 1 _) (wpAny_pure ?_)
  refine wpAny_bind (PySem.W.kdu_collect (A := X.A.in1) (kdl_raw hs hx hdt) (I.ok.hd hcalm) ho (by omega) fun h' tk acc hkp it => ?_)
  have hacl : acc.toList.length = ks.length := by rw [Array.length_toList, it.1]; exact l1
  have ea : acc.toList = (ks.map fun x => x.2.1).map Value.ref := by
    rw [List.map_map]
    apply List.ext_getElem?
    intro j
    rw [List.getElem?_map]
    cases hj : acc.toList[j]? with
    | none =>
      have h1 := List.getElem?_eq_none_iff.mp hj
      rw [List.getElem?_eq_none (by omega)]
      all_goals rfl
    | some v =>
      obtain ⟨en, hen, hv⟩ := it.2 j v (by rw [← Array.getElem?_toList]; exact hj)
      have qe := entry_at he j
      rw [hen] at qe
      cases hb : ks[j]? with
      | none =>
        rw [hb] at qe
        exact nomatch (show some en = none from qe)
      | some b =>
        rw [hb] at qe
        have e2 : en = entryOfKey (tupleKind (mixKind X.prog X.w)) b := Option.some.inj qe
        rw [hv, e2]
        all_goals rfl
  have rv : Vals ((ks.map fun x => x.2.1).map V.ref) acc.toList := by rw [ea]; exact vals_refs _
  have hka : KeysAt H kvs (ks.map fun x => x.2.1) := keysAt_of I.hok pr
  have hdp : DpAll X.K H ((ks.map fun x => x.2.1).map V.ref) (kvs.map fun p => keyPd p.1) := dpAll_keys hka
  obtain ⟨e1, e2⟩ := each_zip I rv hdp
  generalize hbs : ((ks.map fun x => x.2.1).map V.ref).zip (kvs.map fun p => keyPd p.1) = bs at e1 e2
  have hm : bs.map Prod.snd = kvs.map fun p => keyPd p.1 := by
    rw [← hbs]
    exact zip_snd (by simp [l2])
  have hbl : bs.length = ks.length := by rw [← hbs, List.length_zip]; simp [l2]
  have I1 : L2.Inv X pins σ H { s with heap := h', toks := tk } := I.kept hkp
  refine wpAny_bind (wpAny_newList ?_ (by rw [hacl]; omega))
  have hoL : (h'.push (seqObj "list" acc.toList.toArray 0)).get? h'.objs.size = some (seqObj "list" acc.toList.toArray 0) := Heap.get?_push_size _ rfl
  show wpAny _ _ _ _ _ { s with heap := h'.push (seqObj "list" acc.toList.toArray 0), toks := tk }
  have old : ∀ b o, s.heap.get? b = some o → (sortingHeap (h'.push (seqObj "list" acc.toList.toArray 0)) h'.objs.size acc.toList).get? b = some o := fun b o e =>
    sortingHeap_old (Nat.ne_of_lt (Heap.lt_size (hkp b o e))) (Heap.get?_push_of_some _ (hkp b o e))
  have er' : EachIs (fun v b => ∃ as, Reads (sortingHeap (h'.push (seqObj "list" acc.toList.toArray 0)) h'.objs.size acc.toList) v (Prod.snd b) as) acc.toList bs := e2.mono fun _ _ ⟨as, r⟩ => ⟨as, PyProof.Rows.Reads.keeps old r⟩
  have hub : ∀ b, b ∈ bs → X.A.in1.in1.units + (Prod.snd b).depth < cLine := fun b hb => by
    have : b.2 ∈ kvs.map fun p => keyPd p.1 := by
      rw [← hm]
      exact List.mem_map.mpr ⟨b, hb, rfl⟩
    have := hdep _ this
    show X.A.units + 1 + 1 + _ < cLine
    omega
  refine wpAny_bind (wpAny_holding (wpAny_call_entry PyProof.Rows.slot_list_sort ⟨_, hoL, rfl⟩ PyProof.Rows.entry_list_sort
    (list_sort_vals (κ := dataKind (sortingHeap (h'.push (seqObj "list" acc.toList.toArray 0)) h'.objs.size acc.toList) (bs.map Prod.snd)) hoL (SortsAt.data (s := { s with heap := sortingHeap (h'.push (seqObj "list" acc.toList.toArray 0)) h'.objs.size acc.toList, toks := tk }) (each_map (R := fun v d => ∃ as, Reads (sortingHeap (h'.push (seqObj "list" acc.toList.toArray 0)) h'.objs.size acc.toList) v d as) Prod.snd er') (by rw [hm]; exact hal) (by rw [hm]; exact hk) (bound_map hub)) (by rw [hacl]; omega) ⟨_, rfl, ?_⟩)
    (PyProof.Rows.args_list_sort _)))
  have hR := sortVals_data (enc := Prod.snd) false e1 er' (by rw [hm]; exact hal)
  obtain ⟨e', he'⟩ := PyProof.Rows.sortedHeap_at (vs := acc.toList) (out := (sortVals (dataKind (sortingHeap (h'.push (seqObj "list" acc.toList.toArray 0)) h'.objs.size acc.toList) (bs.map Prod.snd)) false acc.toList acc.toList).toArray) hoL
  have hl2 : ((bs.mergeSort (dataLe false Prod.snd)).map (·.1)).length ≤ sizeLine := by
    rw [List.length_map, List.length_mergeSort, hbl]
    omega
  have q' := q h'.objs.size (ks.map fun x => x.2.1) (I1.hok.fresh (Nat.le_refl _)) hka z
  rw [hbs] at q'
  refine wpAny_pure ⟨_, rfl, .ref h'.objs.size, upd H h'.objs.size (.lst ((bs.mergeSort (dataLe false Prod.snd)).map (·.1))), I1.laid (t' := tk) (fun b u e => ?_) (Nat.le_refl _) ⟨hl2, _, e', vals_each hR, he'⟩, rfl, q'⟩
  have hb : b < h'.objs.size := Heap.lt_size e
  rw [PyProof.Rows.sortedHeap_old (Nat.ne_of_lt hb) (by rw [size_push']; exact Nat.lt_succ_of_lt hb)]
  exact Heap.get?_push_of_some _ e
end
/-- a tuple that the heap holds goes into the world -/
theorem Rel3.tup {K : PySem.W.Frag} {w : W3} {H : Hp} {S : S3} (r : Rel3 K w H S) {b : Addr} {xs : List V} (hb : H b = some (.tup xs)) (hz : xs.length ≤ sizeLine) : Rel3 K ⟨w.al, upd w.h b (.tup xs), w.pn⟩ H S ∧ Ex3 w ⟨w.al, upd w.h b (.tup xs), w.pn⟩ := by
  have sm : Same w.h (upd w.h b (.tup xs)) := fun a u e => by
    by_cases ha : a = b
    · subst ha
      have := r.sub a u e
      rw [hb] at this
      rw [upd_same]
      exact this
    · rw [upd_ne ha]
      exact e
  have ex : Ex3 w ⟨w.al, upd w.h b (.tup xs), w.pn⟩ := ⟨⟨⟨[], by simp⟩, sm⟩, rfl⟩
  refine ⟨⟨fun a u e => ?_, fun a u e => ?_, r.len, fun n a o e q => ?_, fun n a e q => ?_, r.nd, fun a u ha => ?_, r.pnd⟩, ex⟩
  · have e' : upd w.h b (.tup xs) a = some u := e
    by_cases ha : a = b
    · subst ha
      rw [upd_same] at e'
      rw [hb]
      exact e'
    · rw [upd_ne ha] at e'
      exact r.sub a u e'
  · have e' : upd w.h b (.tup xs) a = some u := e
    by_cases ha : a = b
    · subst ha
      rw [upd_same] at e'
      cases e'
      exact hz
    · rw [upd_ne ha] at e'
      exact r.sz a u e'
  · obtain ⟨h1, u, h2, h3⟩ := r.live n a o e q
    have ha : a ≠ b := fun z => by
      subst z
      rw [hb] at h2
      cases h2
      cases o with
      | dif od kxs kvs =>
        obtain ⟨h4, _⟩ := h3
        cases h4
      | dkf od kxs kvs =>
        obtain ⟨h4, _⟩ := h3
        cases h4
      | _ =>
        obtain ⟨_, h4, _⟩ := h3
        cases h4
    exact ⟨by show upd w.h b (.tup xs) a = none; rw [upd_ne ha]; exact h1, u, h2, h3.mono ex.toEx0⟩
  · obtain ⟨u, h1⟩ := r.dead n a e q
    exact ⟨u, sm a u h1⟩
  · obtain ⟨h1, h2, h3⟩ := r.pin a u ha
    have hab : a ≠ b := fun z => by
      subst z
      rw [hb] at h1
      cases h1
      exact (r.pnd.2 _ ha).elim
    exact ⟨h1, by show upd w.h b (.tup xs) a = none; rw [upd_ne hab]; exact h2, h3⟩
theorem Rel3.tups {K : PySem.W.Frag} {H : Hp} {S : S3} : ∀ {w : W3} {kvs : List (List Key × V)} {bs : List Addr}, Rel3 K w H S → KeysAt H kvs bs → ∃ h', Ex3 w ⟨w.al, h', w.pn⟩ ∧ Rel3 K ⟨w.al, h', w.pn⟩ H S ∧ DpAll K h' (bs.map V.ref) (kvs.map fun p => keyPd p.1)
  | w, _, _, r, .nil => ⟨w.h, ⟨⟨⟨[], by simp⟩, Same.refl _⟩, rfl⟩, r, .nil⟩
  | w, _, _, r, .cons (a := p) (b := b) h t => by
    obtain ⟨r1, e1⟩ := r.tup h.1 (by simpa using h.2)
    obtain ⟨h', e2, r2, d⟩ := Rel3.tups r1 t
    refine ⟨h', e1.trans e2, r2, .cons (dp_keyPd ?_) d⟩
    exact e2.h _ _ upd_same
def pairT : PyData → Option (List Key × PyData)
  | .tuple [k, v] => match keyT (.p k) with
    | some ks => some (ks, v)
    | none => none
  | _ => none
def pairsT : List PyData → Option (List (List Key × PyData))
  | [] => some []
  | d :: ds => match pairT d, pairsT ds with
    | some p, some ps => some (p :: ps)
    | _, _ => none
/-- dict(xs), the keys tuples -/
def tDictPT3 (te : TE3) : TE3 := fun env S Q => te env S fun x S1 => match lst3 S1 x with
  | some ds => (match pairsT ds with
    | some kvs => Q (.loc S1.length) (S1 ++ [some (.dic (mergeT [] kvs))])
    | none => False)
  | none => False
/-- sorted(d) -/
def tSortedT3 (te : TE3) : TN3 := fun env S Q => te env S fun x S1 => match dic3 S1 x with
  | some (_, kvs) => (PySem.W.AllAlike (kvs.map fun p => keyPd p.1) ∧ PySem.W.Sortable (kvs.map fun p => keyPd p.1) ∧ ∀ d ∈ kvs.map (fun p => keyPd p.1), d.depth ≤ 60) ∧ Q (sortD (kvs.map fun p => keyPd p.1)) S1
  | none => False
theorem pt_merge {K : PySem.W.Frag} {h : Hp} : ∀ {more : List (List Key × PyData)} {mxs kxs : List (List Key × V)} {kvs : List (List Key × PyData)}, Paired (KtR K h) mxs more → Paired (KtR K h) kxs kvs → Paired (KtR K h) (mergeTV kxs mxs) (mergeT kvs more)
  | _, _, _, _, .nil, s => s
  | _, _, _, _, .cons (a := p) (b := q) r rs, s => by
    have := pt_put (k := q.1) s r.2
    show Paired (KtR K h) (mergeTV (putK _ p.1 p.2) _) (mergeT (putE _ q.1 q.2) _)
    rw [show p.1 = q.1 from r.1]
    exact pt_merge rs this
theorem pairT_low {K : PySem.W.Frag} {w : W3} {H : Hp} {S : S3} {v : V} {d : PyData} {p : List Key × PyData} (hK : NoTK K) (r : Rel3 K w H S) (h1 : Dp K w.h v d) (h : pairT d = some p) : ∃ a b x, v = .ref a ∧ PairT K H (a, b) (p.1, x) ∧ Dp K w.h x p.2 := by
  unfold pairT at h
  split at h
  · rename_i k v'
    split at h
    · rename_i ks hk
      cases h
      cases h1 with
      | @tup a xs _ hs ha =>
        cases ha with
        | @cons y _ ys _ p1 ha =>
          cases ha with
          | @cons x _ zs _ p2 ha =>
            cases ha
            obtain ⟨b, rfl, hb⟩ := keyT_low (d := .p k) hK r p1 hk
            exact ⟨a, b, x, rfl, ⟨Same.sqT r.sub hs, hb⟩, p2⟩
    · cases h
  · cases h
theorem pairsT_low {K : PySem.W.Frag} {w : W3} {H : Hp} {S : S3} (hK : NoTK K) (r : Rel3 K w H S) : ∀ {ds : List PyData} {vs : List V} {kvs : List (List Key × PyData)}, DpAll K w.h vs ds → pairsT ds = some kvs →
    ∃ (ps : List (Addr × Addr)) (kxs : List (List Key × V)), vs = ps.map (fun p => V.ref p.1) ∧ Paired (PairT K H) ps kxs ∧ Paired (KtR K w.h) kxs kvs
  | [], _, _, .nil, e => by
    cases e
    exact ⟨[], [], rfl, .nil, .nil⟩
  | d :: ds, _, _, .cons p rs, e => by
    unfold pairsT at e
    split at e
    · rename_i q qs h1 h2
      cases e
      obtain ⟨a, b, x, rfl, g1, g2⟩ := pairT_low hK r p h1
      obtain ⟨ps, kxs, rfl, f1, f2⟩ := pairsT_low hK r rs h2
      exact ⟨(a, b) :: ps, (q.1, x) :: kxs, rfl, .cons g1 f1, .cons ⟨rfl, g2⟩ f2⟩
    · cases e
section
variable {X : Cx}
theorem qe_dictPT {e : Expr} {te : TE3} {p pos : Pos} (hK : NoTK X.K) (hcalm : X.calm = true) (hu : X.A.units + 64 < cLine) (hg : Gl X "dict") (hm : X.mg "dict" = none) (ha : QE X e te) (hs : starEach [e] X.env = (false, eval e X.env) :: starEach [] X.env := by rfl) (hpl : (backTo pos (starEach [] X.env)).any (·.1) = false := by rfl) :
    QE X (.Call (.Name "dict" p) [e] [] pos) (tDictPT3 te) := L2.PE.imp (pe_callTy (call_dictPT hcalm hu) hg hm (by decide +kernel) (pa_cons ha pa_nil hs) (by decide) (by decide) hs hpl) fun σ H R ⟨w, env, S, Q, r0, en, t, q⟩ => by
  refine ⟨w, env, S, _, r0, en, t, fun w1 v d H1 S1 e1 r1 p1 t1 => ?_⟩
  split at t1
  · rename_i ds h1
    obtain ⟨a, xs, rfl, hq, hd, hz⟩ := lst3_low r1 p1 h1
    split at t1
    · rename_i kvs h2
      obtain ⟨ps, kxs, rfl, f1, f2⟩ := pairsT_low hK r1 hd h2
      refine ⟨a, ps, kxs, rfl, hq, f1, fun p hn => ?_⟩
      obtain ⟨r2, e2⟩ := r1.push (u := .dT (mergeTV [] kxs)) (o := .dic (mergeT [] kvs)) hn ⟨_, rfl, pt_merge f2 .nil⟩
      refine q _ (.ref p) (.loc S1.length) _ _ (e1.trans e2) r2 ⟨p, ?_, rfl⟩ t1
      show (w1.al ++ [p])[S1.length]? = some p
      rw [← r1.len, List.getElem?_append_right (Nat.le_refl _)]
      simp
    · exact t1.elim
  · exact t1.elim
theorem pt_keys {K : PySem.W.Frag} {h : Hp} : ∀ {kxs : List (List Key × V)} {kvs : List (List Key × PyData)}, Paired (KtR K h) kxs kvs → (kxs.map fun p => keyPd p.1) = kvs.map fun p => keyPd p.1
  | _, _, .nil => rfl
  | _, _, .cons r rs => by rw [List.map_cons, List.map_cons, r.1, pt_keys rs]
theorem qn_sortedT {e : Expr} {te : TE3} {p pos : Pos} (hcalm : X.calm = true) (hu : X.A.units + 64 < cLine) (hg : Gl X "sorted") (hm : X.mg "sorted" = none) (ha : QE X e te) (hs : starEach [e] X.env = (false, eval e X.env) :: starEach [] X.env := by rfl) (hpl : (backTo pos (starEach [] X.env)).any (·.1) = false := by rfl) :
    QN X (.Call (.Name "sorted" p) [e] [] pos) (tSortedT3 te) := L2.PE.imp (pe_callB (cr_sortedT hcalm hu) hg hm (by decide +kernel) (pa_cons ha pa_nil hs) (by decide) (by decide) hs hpl) fun σ H R ⟨w, env, S, Q, r0, en, t, q⟩ => by
  refine ⟨w, env, S, _, r0, en, t, fun w1 v d H1 S1 e1 r1 p1 t1 => ?_⟩
  split at t1
  · rename_i n kvs h1
    obtain ⟨a, kxs, rfl, rfl, ha, hs', hH, hp⟩ := dic3_low r1 p1 h1
    obtain ⟨⟨c1, c2, c3⟩, t1⟩ := t1
    have ek := pt_keys hp
    refine ⟨a, kxs, rfl, .inl hH, by rw [ek]; exact c1, by rw [ek]; exact c2, by rw [ek]; exact c3, fun p bs hn hb hz => ?_⟩
    obtain ⟨h', e2, r2, dd⟩ := Rel3.tups r1 hb
    rw [ek] at dd ⊢
    have hlen := DpAll.length dd
    have hsnd : (((bs.map V.ref).zip (kvs.map fun p => keyPd p.1)).mergeSort (PySem.W.dataLe false Prod.snd)).map (·.2) = sortD (kvs.map fun p => keyPd p.1) := by
      have e := List.map_mergeSort (f := fun x : V × PyData => x.2) (r := PySem.W.dataLe false Prod.snd) (s := PySem.W.dataLe false id) (l := (bs.map V.ref).zip (kvs.map fun p => keyPd p.1)) (fun _ _ _ _ => rfl)
      unfold sortD
      rw [e, zip_snd hlen]
    refine q ⟨w1.al, h', w1.pn⟩ p _ (sortD (kvs.map fun p => keyPd p.1)) H1 S1 (e1.trans e2) r2 hn ?_ ?_ t1
    · rw [← hsnd]
      exact dp_unzip fun p hp => zip_dp dd p (List.mem_mergeSort.mp hp)
    · unfold sortD
      rw [List.length_mergeSort, ← ek, List.length_map]
      exact hz
  · exact t1.elim
end
/-! ### a, b = x, y where a comprehension reads a or b: by a tuple -/
theorem qs_parC {X : Cx} {i j : Nat} {tg a b : Expr} {ta : TA3} {pos pt2 : Pos} {k2} (ha : QA X [a, b] ta) (hg : QB X tg (.tup (.cons (.nm i) (.cons (.nm j) .nil)))) (hs : swapsWithSole [tg] (.Tuple [a, b] k2 pt2) pos.line X.env = pure false := by rfl)
    (hw : swappedStores [tg] (.Tuple [a, b] k2 pt2) X.env = pure none := by rfl) (h1 : (assignEach [tg] X.env).map (·.2) = [assign tg X.env] := by rfl) : QS X (.Assign [tg] (.Tuple [a, b] k2 pt2) pos) (tPr3 i j ta) :=
  (ps_asg (pe_tup ha) hg hs hw h1).imp fun D σ H ⟨w, env, S, D3, r, en, t, q⟩ => by
  refine ⟨w, env, S, _, r, en, t, fun w1 vs ds H1 S1 e1 r1 p1 t1 => ?_⟩
  have h2 : 2 ≤ sizeLine := by rw [sizeLine_eq]; decide
  match vs, ds, p1, t1 with
  | [v, u], [x, y], p1, t1 =>
    refine ⟨h2, fun p hn => ?_⟩
    obtain ⟨r2, e2⟩ := r1.frz (u := .tup [v, u]) hn h2
    unfold g2
    refine ⟨p, [v, u], rfl, .inl (.inl upd_same), rfl, ?_⟩
    unfold gs2
    refine ⟨v, [u], rfl, ?_⟩
    unfold gs2
    refine ⟨u, [], rfl, ?_⟩
    unfold gs2
    refine ⟨rfl, ?_⟩
    exact q.nx _ _ _ _ S1 (e1.trans e2) r2 (((en.mono (e1.trans e2)).set i (p1.1.mono e2)).set j (p1.2.1.mono e2)) t1
  | [], [x, y], p1, _ => exact p1.elim
  | [_], [x, y], p1, _ => exact p1.2.elim
  | _ :: _ :: _ :: _, [x, y], p1, _ => exact p1.2.2.elim
end L3

/-! ### enumerate(zip(a, b)) of two tuples: enumerate keeps zip's pair, so zip finds its tuple held -/
namespace L3
open PySem PySem.Spec PyProof.Rows L2
/-- a zip with any marker of what it gave out -/
abbrev ZipM (h : Heap) (z TI TO : Addr) (mk : Value) (f : Bool) : Prop :=
  h.get? z = some { cls := .type "zip", dict := none, data := .fields #[mk, .bool f, .bool false, .ref TI, .ref TO], slots := #[] }
def MkOk (mk : Value) : Prop := mk = .none ∨ ∃ T : Addr, mk = rawInt (T : Nat)
section
variable {prog : Program} {w : World} {A : Around} {E : Value → Shared → Prop} {s : Shared}
theorem alive_any {a : Addr} {Q : Option Obj → Shared → Prop} (h : Q (s.heap.get? a) s) : wpAny (model prog w) A (loadIfAlive a) Q E s :=
  fun _ _ _ => h
theorem owned_any {z TI TO : Addr} {mk : Value} {f : Bool} {Q : Bool → Shared → Prop} (hm : MkOk mk) (hz : ZipM s.heap z TI TO mk f)
    (h1 : Q true s) (h2 : ∀ h' f', ZipM h' z TI TO mk f' → Heap.SameBut z s.heap h' → Q false { s with heap := h' }) : wpAny (model prog w) A (Builtin.SmallTypes.ownedTupleIsFree (.ref z)) Q E s := by
  unfold Builtin.SmallTypes.ownedTupleIsFree
  rcases hm with rfl | ⟨T, rfl⟩
  · refine wpAny_bind (wpAny_field hz rfl (x := .none) rfl (wpAny_pure ?_))
    exact h1
  · refine wpAny_bind (wpAny_field hz rfl (x := rawInt (T : Nat)) rfl ?_)
    show wpAny _ _ (loadIfAlive ((T : Int).toNat) >>= _) _ _ _
    rw [Int.toNat_natCast]
    refine wpAny_bind (alive_any ?_)
    cases hT : s.heap.get? T with
    | none =>
      simp only [Option.isNone_none, if_true]
      exact wpAny_pure h1
    | some oT =>
      simp only [Option.isNone_some, Bool.false_eq_true, if_false]
      refine wpAny_bind (wpAny_field hz rfl (x := .bool f) rfl ?_)
      cases f with
      | true =>
        rw [if_neg (show ¬ ((Value.bool true != Value.bool true) = true) from Bool.false_ne_true)]
        exact wpAny_pure (h2 s.heap true hz (Heap.SameBut.refl _ _))
      | false =>
        rw [if_pos (show (Value.bool false != Value.bool true) = true from rfl)]
        exact wpAny_bind (wpAny_setField_rec hz (by simp) fun h₁ hz₁ hs₁ => wpAny_pure (h2 h₁ true hz₁ hs₁))
theorem zipM_item {z TI TO i1 i2 l1 l2 : Addr} {mk : Value} {f : Bool} {k1 k2 : Nat} {xs ys : Array Value} {x y a b : Value} {Q : Value → Shared → Prop} (D : ZipApart z TI TO i1 i2 l1 l2) (hm : MkOk mk)
    (hz : ZipM s.heap z TI TO mk f) (hTI : IsPair s.heap TI (.ref i1) (.ref i2)) (hTO : IsPair s.heap TO a b)
    (h1 : s.heap.IsTupleIter i1 l1 k1) (h2 : s.heap.IsTupleIter i2 l2 k2) (hl1 : s.heap.IsTuple l1 xs) (hl2 : s.heap.IsTuple l2 ys) (hx : xs[k1]? = some x) (hy : ys[k2]? = some y)
    (hQ : ∀ h' mk' f' a' b', MkOk mk' → ZipM h' z TI TO mk' f' → IsPair h' TO a' b' → h'.IsTupleIter i1 l1 (k1 + 1) → h'.IsTupleIter i2 l2 (k2 + 1) → IsPair h' s.heap.objs.size x y → h'.objs.size = s.heap.objs.size + 1 →
      (∀ c o, c ≠ z → c ≠ TO → c ≠ i1 → c ≠ i2 → s.heap.get? c = some o → h'.get? c = some o) → Q (.ref s.heap.objs.size) { s with heap := h' }) :
    wpAny (model prog w) A (Builtin.«zip.__next__» ⟨[.ref z], []⟩) (fun fin s' => ∃ v, fin = .done (.ret v) ∧ Q v s') E s := by
  show wpAny _ _ (field (.ref z) 2 >>= _) _ _ _
  refine wpAny_bind (wpAny_field hz rfl (x := .bool false) rfl ?_)
  show wpAny _ _ (field (.ref z) 3 >>= _) _ _ _
  refine wpAny_bind (wpAny_field hz rfl (x := .ref TI) rfl ?_)
  refine wpAny_bind (wpAny_seqItems hTI rfl ?_)
  show wpAny _ _ (Builtin.SmallTypes.ownedTupleIsFree (.ref z) >>= _) _ _ _
  refine wpAny_bind (owned_any hm hz ?_ ?_)
  · simp only [if_true]
    refine wpAny_bind (wpAny_rule ?_)
    refine wpAny_bind (wpAny_field hz rfl (x := .ref TO) rfl ?_)
    refine wpAny_bind (wpAny_setField_rec hz (by simp) fun h₁ hz₁ hs₁ => ?_)
    replace hz₁ : ZipM h₁ z TI TO .ellipsis f := hz₁
    refine wpAny_bind ?_
    simp only [List.zipIdx_cons, List.zipIdx_nil, List.forIn_cons, List.forIn_nil]
    refine wpAny_bind (wpAny_bind (wpAny_onRaise ?_))
    show wpAny _ _ (Builtin.SmallTypes.nextOf (.ref i1) >>= _) _ _ _
    refine wpAny_bind (RZ.nextOf_tuple_item (h1.extBut hs₁.extBut D.i1z) (hl1.extBut hs₁.extBut D.l1z) hx fun h₂ h1₂ hs₂ => wpAny_pure ?_)
    have hTO₂ : IsPair h₂ TO a b := hs₂.extBut _ _ D.TOi1 (hs₁.extBut _ _ D.TOz hTO)
    refine wpAny_bind (wpAny_seqItems hTO₂ rfl ?_)
    refine wpAny_bind (wpAny_updateSeq_pair hTO₂ fun h₃ hTO₃ hs₃ => ?_)
    replace hTO₃ : IsPair h₃ TO x b := hTO₃
    refine wpAny_bind (wpAny_letGo (wpAny_pure ?_))
    refine wpAny_bind (wpAny_bind (wpAny_onRaise ?_))
    show wpAny _ _ (Builtin.SmallTypes.nextOf (.ref i2) >>= _) _ _ _
    refine wpAny_bind (RZ.nextOf_tuple_item (((h2.extBut hs₁.extBut D.i2z).extBut hs₂.extBut D.i12.symm).extBut hs₃.extBut D.TOi2.symm)
      (((hl2.extBut hs₁.extBut D.l2z).extBut hs₂.extBut D.l2i1).extBut hs₃.extBut D.l2TO) hy fun h₄ h2₄ hs₄ => wpAny_pure ?_)
    have hTO₄ : IsPair h₄ TO x b := hs₄.extBut _ _ D.TOi2 hTO₃
    refine wpAny_bind (wpAny_seqItems hTO₄ rfl ?_)
    refine wpAny_bind (wpAny_updateSeq_pair hTO₄ fun h₅ hTO₅ hs₅ => ?_)
    replace hTO₅ : IsPair h₅ TO x y := hTO₅
    refine wpAny_bind (wpAny_letGo (wpAny_pure (wpAny_pure ?_)))
    refine wpAny_bind (wpAny_seqItems hTO₅ rfl ?_)
    refine wpAny_bind (wpAny_newTuple ?_)
    have hsz : h₅.objs.size = s.heap.objs.size := by rw [hs₅.1, hs₄.1, hs₃.1, hs₂.1, hs₁.1]
    have hz₅ : ZipM h₅ z TI TO .ellipsis f := hs₅.extBut _ _ D.TOz.symm (hs₄.extBut _ _ D.i2z.symm (hs₃.extBut _ _ D.TOz.symm (hs₂.extBut _ _ D.i1z.symm hz₁)))
    have hk₅ : ∀ c o, c ≠ z → c ≠ TO → c ≠ i1 → c ≠ i2 → s.heap.get? c = some o → h₅.get? c = some o := fun c o c1 c2 c3 c4 e =>
      hs₅.extBut _ _ c2 (hs₄.extBut _ _ c4 (hs₃.extBut _ _ c2 (hs₂.extBut _ _ c3 (hs₁.extBut _ _ c1 e))))
    have h1₅ : h₅.IsTupleIter i1 l1 (k1 + 1) := ((h1₂.extBut hs₃.extBut D.TOi1.symm).extBut hs₄.extBut D.i12).extBut hs₅.extBut D.TOi1.symm
    have h2₅ : h₅.IsTupleIter i2 l2 (k2 + 1) := h2₄.extBut hs₅.extBut D.TOi2.symm
    have hzlt : z < h₅.objs.size := Heap.lt_size hz₅
    show wpAny _ _ (Builtin.SmallTypes.ownedTupleHandOut (.ref z) (.ref h₅.objs.size) >>= _) _ _ _
    refine wpAny_bind ?_
    unfold Builtin.SmallTypes.ownedTupleHandOut
    have hz₆ : ZipM (h₅.push { cls := .type "tuple", data := .seq #[x, y] }) z TI TO .ellipsis f := Heap.get?_push_of_some _ hz₅
    refine wpAny_bind (wpAny_setField_rec hz₆ (by simp) fun h₇ hz₇ hs₇ => ?_)
    replace hz₇ : ZipM h₇ z TI TO (rawInt h₅.objs.size) f := hz₇
    refine wpAny_setField_rec hz₇ (by simp) fun h₈ hz₈ hs₈ => ?_
    replace hz₈ : ZipM h₈ z TI TO (rawInt h₅.objs.size) false := hz₈
    have up : ∀ c o, c ≠ z → h₅.get? c = some o → h₈.get? c = some o := fun c o c1 e => hs₈.extBut _ _ c1 (hs₇.extBut _ _ c1 (Heap.get?_push_of_some _ e))
    have hT₈ : IsPair h₈ h₅.objs.size x y := hs₈.extBut _ _ (Nat.ne_of_gt hzlt) (hs₇.extBut _ _ (Nat.ne_of_gt hzlt) (Heap.get?_push_size _ rfl))
    have hz8 : h₈.objs.size = h₅.objs.size + 1 := by rw [hs₈.1, hs₇.1, Heap.size_push]
    rw [hsz] at hz₈ hT₈ hz8
    refine wpAny_pure ⟨_, rfl, ?_⟩
    show Q (.ref h₅.objs.size) _
    rw [hsz]
    exact hQ h₈ _ _ x y (.inr ⟨_, rfl⟩) hz₈ (up _ _ D.TOz hTO₅) (h1₅.at fun o e => up _ o D.i1z e) (h2₅.at fun o e => up _ o D.i2z e) hT₈ hz8 fun c o c1 c2 c3 c4 e => up c o c1 (hk₅ c o c1 c2 c3 c4 e)
  · intro h₁ f' hz₁ hs₁
    simp only [Bool.false_eq_true, if_false]
    refine wpAny_bind ?_
    rw [← Array.forIn_toList]
    simp only [List.forIn_cons, List.forIn_nil]
    refine wpAny_bind (wpAny_bind (wpAny_holding ?_))
    show wpAny _ _ (Builtin.SmallTypes.nextOf (.ref i1) >>= _) _ _ _
    refine wpAny_bind (RZ.nextOf_tuple_item (s := { s with heap := h₁ }) (h1.extBut hs₁.extBut D.i1z) (hl1.extBut hs₁.extBut D.l1z) hx fun h₂ h1₂ hs₂ => wpAny_pure ?_)
    refine wpAny_pure ?_
    refine wpAny_bind (wpAny_bind (wpAny_holding ?_))
    show wpAny _ _ (Builtin.SmallTypes.nextOf (.ref i2) >>= _) _ _ _
    refine wpAny_bind (RZ.nextOf_tuple_item (s := { s with heap := h₂ }) ((h2.extBut hs₁.extBut D.i2z).extBut hs₂.extBut D.i12.symm) ((hl2.extBut hs₁.extBut D.l2z).extBut hs₂.extBut D.l2i1) hy fun h₃ h2₃ hs₃ => wpAny_pure ?_)
    refine wpAny_pure (wpAny_pure ?_)
    show wpAny _ _ (newTuple [x, y] >>= _) _ _ _
    refine wpAny_bind (wpAny_newTuple ?_)
    have hsz : h₃.objs.size = s.heap.objs.size := by rw [hs₃.1, hs₂.1, hs₁.1]
    have hz₃ : ZipM h₃ z TI TO mk f' := hs₃.extBut _ _ D.i2z.symm (hs₂.extBut _ _ D.i1z.symm hz₁)
    have hk : ∀ c o, c ≠ z → c ≠ i1 → c ≠ i2 → s.heap.get? c = some o → h₃.get? c = some o := fun c o c1 c2 c3 e => hs₃.extBut _ _ c3 (hs₂.extBut _ _ c2 (hs₁.extBut _ _ c1 e))
    have h1₃ : h₃.IsTupleIter i1 l1 (k1 + 1) := h1₂.extBut hs₃.extBut D.i12
    refine wpAny_pure ⟨_, rfl, ?_⟩
    show Q (.ref h₃.objs.size) _
    have hp : IsPair (h₃.push { cls := .type "tuple", data := .seq #[x, y] }) h₃.objs.size x y := Heap.get?_push_size _ rfl
    have hz4 : (h₃.push { cls := .type "tuple", data := .seq #[x, y] }).objs.size = h₃.objs.size + 1 := Heap.size_push ..
    rw [hsz] at hp hz4 ⊢
    exact hQ _ mk f' a b hm (Heap.get?_push_of_some _ hz₃) (Heap.get?_push_of_some _ (hk _ _ D.TOz D.TOi1 D.TOi2 hTO)) (h1₃.at fun o e => Heap.get?_push_of_some _ e) (h2₃.at fun o e => Heap.get?_push_of_some _ e) hp hz4 fun c o c1 _ c2 c3 e => Heap.get?_push_of_some _ (hk c o c1 c2 c3 e)
theorem zipM_end {z TI TO i1 i2 l1 l2 : Addr} {mk : Value} {f : Bool} {k1 k2 : Nat} {xs ys : Array Value} {a b : Value} {Q : Fin → Shared → Prop} (hh : A.handled = none) (D : ZipApart z TI TO i1 i2 l1 l2) (hm : MkOk mk)
    (hz : ZipM s.heap z TI TO mk f) (hTI : IsPair s.heap TI (.ref i1) (.ref i2)) (hTO : IsPair s.heap TO a b)
    (h1 : s.heap.IsTupleIter i1 l1 k1) (h2 : s.heap.IsTupleIter i2 l2 k2) (hl1 : s.heap.IsTuple l1 xs) (hl2 : s.heap.IsTuple l2 ys) (hend : xs[k1]? = none ∨ ys[k2]? = none)
    (hE : ∀ h' e, (∀ c o, c ≠ z → c ≠ TO → c ≠ i1 → c ≠ i2 → s.heap.get? c = some o → h'.get? c = some o) → (∃ o, h'.get? e = some o ∧ o.cls = .type "StopIteration") → E (.ref e) { s with heap := h' }) :
    wpAny (model prog w) A (Builtin.«zip.__next__» ⟨[.ref z], []⟩) Q E s := by
  show wpAny _ _ (field (.ref z) 2 >>= _) _ _ _
  refine wpAny_bind (wpAny_field hz rfl (x := .bool false) rfl ?_)
  show wpAny _ _ (field (.ref z) 3 >>= _) _ _ _
  refine wpAny_bind (wpAny_field hz rfl (x := .ref TI) rfl ?_)
  refine wpAny_bind (wpAny_seqItems hTI rfl ?_)
  show wpAny _ _ (Builtin.SmallTypes.ownedTupleIsFree (.ref z) >>= _) _ _ _
  refine wpAny_bind (owned_any hm hz ?_ ?_)
  · simp only [if_true]
    refine wpAny_bind (wpAny_rule ?_)
    refine wpAny_bind (wpAny_field hz rfl (x := .ref TO) rfl ?_)
    refine wpAny_bind (wpAny_setField_rec hz (by simp) fun h₁ hz₁ hs₁ => ?_)
    replace hz₁ : ZipM h₁ z TI TO .ellipsis f := hz₁
    refine wpAny_bind ?_
    simp only [List.zipIdx_cons, List.zipIdx_nil, List.forIn_cons, List.forIn_nil]
    refine wpAny_bind (wpAny_bind (wpAny_onRaise ?_))
    show wpAny _ _ (Builtin.SmallTypes.nextOf (.ref i1) >>= _) _ _ _
    cases hx : xs[k1]? with
    | none =>
      refine wpAny_bind (RZ.nextOf_tuple_end hh (h1.extBut hs₁.extBut D.i1z) (hl1.extBut hs₁.extBut D.l1z) hx fun h₂ e hs₂ he => ?_)
      obtain ⟨oe, hoe, hce⟩ := he
      have hz₂ : ZipM h₂ z TI TO .ellipsis f := hs₂ _ _ D.i1z.symm hz₁
      have hez : e ≠ z := fun x => by subst x; rw [hz₂] at hoe; cases hoe; simp at hce
      refine wpAny_setField_rec hz₂ (by simp) fun h₃ _ hs₃ => hE h₃ e (fun c o c1 _ c3 _ x => hs₃.extBut _ _ c1 (hs₂ _ _ c3 (hs₁.extBut _ _ c1 x))) ⟨oe, hs₃.extBut _ _ hez hoe, hce⟩
    | some x =>
      have hy : ys[k2]? = none := by rcases hend with h | h; rw [hx] at h; cases h; exact h
      refine wpAny_bind (RZ.nextOf_tuple_item (h1.extBut hs₁.extBut D.i1z) (hl1.extBut hs₁.extBut D.l1z) hx fun h₂ h1₂ hs₂ => wpAny_pure ?_)
      have hTO₂ : IsPair h₂ TO a b := hs₂.extBut _ _ D.TOi1 (hs₁.extBut _ _ D.TOz hTO)
      refine wpAny_bind (wpAny_seqItems hTO₂ rfl ?_)
      refine wpAny_bind (wpAny_updateSeq_pair hTO₂ fun h₃ hTO₃ hs₃ => ?_)
      refine wpAny_bind (wpAny_letGo (wpAny_pure ?_))
      refine wpAny_bind (wpAny_bind (wpAny_onRaise ?_))
      show wpAny _ _ (Builtin.SmallTypes.nextOf (.ref i2) >>= _) _ _ _
      refine wpAny_bind (RZ.nextOf_tuple_end hh (((h2.extBut hs₁.extBut D.i2z).extBut hs₂.extBut D.i12.symm).extBut hs₃.extBut D.TOi2.symm)
        (((hl2.extBut hs₁.extBut D.l2z).extBut hs₂.extBut D.l2i1).extBut hs₃.extBut D.l2TO) hy fun h₄ e hs₄ he => ?_)
      obtain ⟨oe, hoe, hce⟩ := he
      have hz₄ : ZipM h₄ z TI TO .ellipsis f := hs₄ _ _ D.i2z.symm (hs₃.extBut _ _ D.TOz.symm (hs₂.extBut _ _ D.i1z.symm hz₁))
      have hez : e ≠ z := fun x => by subst x; rw [hz₄] at hoe; cases hoe; simp at hce
      refine wpAny_setField_rec hz₄ (by simp) fun h₅ _ hs₅ => hE h₅ e (fun c o c1 c2 c3 c4 x => hs₅.extBut _ _ c1 (hs₄ _ _ c4 (hs₃.extBut _ _ c2 (hs₂.extBut _ _ c3 (hs₁.extBut _ _ c1 x))))) ⟨oe, hs₅.extBut _ _ hez hoe, hce⟩
  · intro h₁ f' hz₁ hs₁
    simp only [Bool.false_eq_true, if_false]
    refine wpAny_bind ?_
    rw [← Array.forIn_toList]
    simp only [List.forIn_cons, List.forIn_nil]
    refine wpAny_bind (wpAny_bind (wpAny_holding ?_))
    show wpAny _ _ (Builtin.SmallTypes.nextOf (.ref i1) >>= _) _ _ _
    cases hx : xs[k1]? with
    | none =>
      refine wpAny_bind (RZ.nextOf_tuple_end (s := { s with heap := h₁ }) hh (h1.extBut hs₁.extBut D.i1z) (hl1.extBut hs₁.extBut D.l1z) hx fun h₂ e hs₂ he => ?_)
      exact hE h₂ e (fun c o c1 _ c2 _ x => hs₂ _ _ c2 (hs₁.extBut _ _ c1 x)) he
    | some x =>
      have hy : ys[k2]? = none := by rcases hend with h | h; rw [hx] at h; cases h; exact h
      refine wpAny_bind (RZ.nextOf_tuple_item (s := { s with heap := h₁ }) (h1.extBut hs₁.extBut D.i1z) (hl1.extBut hs₁.extBut D.l1z) hx fun h₂ h1₂ hs₂ => wpAny_pure ?_)
      refine wpAny_pure ?_
      refine wpAny_bind (wpAny_bind (wpAny_holding ?_))
      show wpAny _ _ (Builtin.SmallTypes.nextOf (.ref i2) >>= _) _ _ _
      refine wpAny_bind (RZ.nextOf_tuple_end (s := { s with heap := h₂ }) hh ((h2.extBut hs₁.extBut D.i2z).extBut hs₂.extBut D.i12.symm) ((hl2.extBut hs₁.extBut D.l2z).extBut hs₂.extBut D.l2i1) hy fun h₃ e hs₃ he => ?_)
      exact hE h₃ e (fun c o c1 _ c2 c3 x => hs₃ _ _ c3 (hs₂.extBut _ _ c2 (hs₁.extBut _ _ c1 x))) he
end
section
variable {prog : Program} {w : World} {A : Around} {E : Value → Shared → Prop} {s : Shared}
theorem nextOf_zip {z : Addr} {Q : Value → Shared → Prop} (hT : s.TypeIs (.ref z) "zip") (h : wpAny (model prog w) A.in1 (Builtin.«zip.__next__» ⟨[.ref z], []⟩) (fun fin s' => ∃ v, fin = .done (.ret v) ∧ Q v s') E s) :
    wpAny (model prog w) A (Builtin.SmallTypes.nextOf (.ref z)) Q E s := by
  unfold Builtin.SmallTypes.nextOf
  refine wpAny_bind (wpAny_callSpecial?_slot (name := Str.ofString "__next__") hT F.slot_zip_next
    (wpAny_call_entry F.slot_zip_next hT F.entry_zip_next (wpAny_mono h (fun fin s' q => ?_) fun _ _ q => q) (F.args_zip_next_1 _)))
  obtain ⟨v, rfl, q⟩ := q
  exact ⟨v, rfl, wpAny_pure q⟩
end
section
variable {prog : Program} {w : World} {A : Around} {E : Value → Shared → Prop} {s : Shared}
/-- enumerate's step over an iterator that gives a new object of its own -/
theorem enum_item_of {e it : Addr} {i : Nat} {R : Value → Heap → Prop} {old : Value} {Q : Option Value → Shared → Prop}
    (he : IsEnum s.heap e it i old)
    (hd : ∀ (Q : Value → Shared → Prop) (E : Value → Shared → Prop), (∀ x h', IsEnum h' e it i old → R x h' → Q x { s with heap := h' }) → wpAny (model prog w) A.in1 (Builtin.SmallTypes.nextOf (.ref it)) Q E s)
    (hQ : ∀ x h₁ h', R x h₁ → e < h₁.objs.size → IsEnumOut h' e it ((i : Int) + 1) x h₁.objs.size →
      h'.get? h₁.objs.size = some { cls := .type "tuple", data := .seq #[.int i s.toks, x] } → h'.objs.size = h₁.objs.size + 1 →
      (∀ b o, b ≠ e → h₁.get? b = some o → h'.get? b = some o) → Q (some (.ref h₁.objs.size)) { s with heap := h', toks := s.toks + 1 }) :
    wpAny (model prog w) A (pyNext (.ref e)) Q E s := by
  have hT : s.TypeIs (.ref e) "enumerate" := ⟨_, he, rfl⟩
  unfold pyNext
  refine wpAny_bind (wpAny_attempt (wpAny_callSpecial?_slot (name := Str.ofString "__next__") hT F.slot_enumerate_next
    (wpAny_call_entry F.slot_enumerate_next hT F.entry_enumerate_next ?_ (F.args_enumerate_next_1 _))))
  obtain ⟨hp, g, d, tk, os⟩ := s
  show wpAny _ _ (field (.ref e) 2 >>= _) _ _ _
  refine wpAny_bind (wpAny_field he rfl (x := .ref it) rfl ?_)
  refine wpAny_bind (hd _ _ fun x h₁ he₁ hR => ?_)
  show wpAny _ _ (field (.ref e) 3 >>= _) _ _ ⟨h₁, g, d, tk, os⟩
  refine wpAny_bind (wpAny_field he₁ rfl (x := rawInt i) rfl ?_)
  show wpAny _ _ (field (.ref e) 4 >>= _) _ _ ⟨h₁, g, d, tk, os⟩
  refine wpAny_bind (wpAny_field he₁ rfl (x := .none) rfl ?_)
  show wpAny _ _ (mkInt i >>= _) _ _ ⟨h₁, g, d, tk, os⟩
  refine wpAny_bind (wpAny_mkInt ?_)
  show wpAny _ _ (setField (.ref e) 3 (rawInt ((i : Int) + 1)) >>= _) _ _ ⟨h₁, g, d, tk + 1, os⟩
  refine wpAny_bind (wpAny_setField_rec he₁ (by simp) fun h₂ he₂ hs₂ => ?_)
  replace hs₂ : Heap.SameBut e h₁ h₂ := hs₂
  replace he₂ : IsEnum h₂ e it ((i : Int) + 1) old := he₂
  show wpAny _ _ (setField (.ref e) 4 .none >>= _) _ _ ⟨h₂, g, d, tk + 1, os⟩
  refine wpAny_bind (wpAny_setField_rec he₂ (by simp) fun h₃ he₃ hs₃ => ?_)
  replace hs₃ : Heap.SameBut e h₂ h₃ := hs₃
  replace he₃ : IsEnum h₃ e it ((i : Int) + 1) old := he₃
  show wpAny _ _ (newTuple [.int i tk, x] >>= _) _ _ ⟨h₃, g, d, tk + 1, os⟩
  refine wpAny_bind (wpAny_newTuple ?_)
  have he₄ : IsEnum (h₃.push { cls := .type "tuple", data := .seq #[.int i tk, x] }) e it ((i : Int) + 1) old := Heap.get?_push_of_some _ he₃
  generalize hh₄ : h₃.push { cls := .type "tuple", data := .seq #[.int i tk, x] } = h₄ at he₄
  have hsz : h₃.objs.size = h₁.objs.size := by rw [hs₃.1, hs₂.1]
  have hel : e < h₁.objs.size := Heap.lt_size he₁
  have ht₄ : h₄.get? h₁.objs.size = some { cls := .type "tuple", data := .seq #[.int i tk, x] } := by rw [← hh₄, ← hsz]; exact Heap.get?_push_size _ rfl
  have hz₄ : h₄.objs.size = h₁.objs.size + 1 := by rw [← hh₄, Heap.size_push, hsz]
  have hk₄ : ∀ b o, b ≠ e → h₁.get? b = some o → h₄.get? b = some o := fun b o hbe hb => by
    rw [← hh₄]; exact Heap.get?_push_of_some _ (hs₃.extBut b o hbe (hs₂.extBut b o hbe hb))
  show wpAny _ _ (Builtin.SmallTypes.ownedTupleIsFree (.ref e) >>= _) _ _ ⟨h₄, g, d, tk + 1, os⟩
  rw [hsz]
  refine wpAny_bind ?_
  · unfold Builtin.SmallTypes.ownedTupleIsFree
    refine wpAny_bind (wpAny_field he₄ rfl (x := .none) rfl (wpAny_pure ?_))
    simp only [if_true]
    refine wpAny_bind (wpAny_rule ?_)
    refine wpAny_bind (wpAny_field he₄ rfl (x := old) rfl ?_)
    refine wpAny_bind (wpAny_setField_rec he₄ (by simp) fun h₅ he₅ hs₅ => ?_)
    replace hs₅ : Heap.SameBut e h₄ h₅ := hs₅
    replace he₅ : IsEnum h₅ e it ((i : Int) + 1) x := he₅
    show wpAny _ _ (Builtin.SmallTypes.ownedTupleHandOut (.ref e) (.ref h₁.objs.size) >>= _) _ _ ⟨h₅, g, d, tk + 1, os⟩
    refine wpAny_bind ?_
    · unfold Builtin.SmallTypes.ownedTupleHandOut
      refine wpAny_bind (wpAny_setField_rec he₅ (by simp) fun h₆ he₆ hs₆ => ?_)
      replace hs₆ : Heap.SameBut e h₅ h₆ := hs₆
      replace he₆ : IsEnumOut h₆ e it ((i : Int) + 1) x h₁.objs.size := he₆
      refine wpAny_setField_rec he₆ (by simp) fun h₇ he₇ hs₇ => ?_
      replace hs₇ : Heap.SameBut e h₆ h₇ := hs₇
      replace he₇ : IsEnumOut h₇ e it ((i : Int) + 1) x h₁.objs.size := he₇
      refine wpAny_bind (wpAny_letGo (wpAny_pure ⟨_, rfl, wpAny_pure (hQ x h₁ h₇ hR hel he₇ ?_ ?_ ?_)⟩))
      · exact hs₇.extBut _ _ (Nat.ne_of_gt hel) (hs₆.extBut _ _ (Nat.ne_of_gt hel) (hs₅.extBut _ _ (Nat.ne_of_gt hel) ht₄))
      · rw [hs₇.1, hs₆.1, hs₅.1, hz₄]
      · exact fun b o hbe hb => hs₇.extBut b o hbe (hs₆.extBut b o hbe (hs₅.extBut b o hbe (hk₄ b o hbe hb)))
theorem enum_end_zip {e it : Addr} {fp : List Addr} {i : Int} {old : Value} {Q : Option Value → Shared → Prop} (he : IsEnum s.heap e it i old)
    (hd : ∀ (Q : Value → Shared → Prop) (E : Value → Shared → Prop), (∀ h' e, (∀ c o, c ∉ fp → s.heap.get? c = some o → h'.get? c = some o) → (∃ o, h'.get? e = some o ∧ o.cls = .type "StopIteration") → E (.ref e) { s with heap := h' }) → wpAny (model prog w) A.in1 (Builtin.SmallTypes.nextOf (.ref it)) Q E s)
    (hQ : ∀ h', (∀ c o, c ∉ fp → s.heap.get? c = some o → h'.get? c = some o) → Q none { s with heap := h' }) : wpAny (model prog w) A (pyNext (.ref e)) Q E s := by
  have hT : s.TypeIs (.ref e) "enumerate" := ⟨_, he, rfl⟩
  unfold pyNext
  refine wpAny_bind (wpAny_attempt (wpAny_callSpecial?_slot (name := Str.ofString "__next__") hT F.slot_enumerate_next
    (wpAny_call_entry F.slot_enumerate_next hT F.entry_enumerate_next ?_ (F.args_enumerate_next_1 _))))
  show wpAny _ _ (field (.ref e) 2 >>= _) _ _ _
  refine wpAny_bind (wpAny_field he rfl (x := .ref it) rfl ?_)
  refine wpAny_bind (hd _ _ fun h' x he' hx' => ?_)
  obtain ⟨o, ho, hc⟩ := hx'
  refine wpAny_bind (wpAny_isInstance (T := "StopIteration") (b := true) ⟨o, ho, hc⟩ isSubtype_stop ?_)
  exact wpAny_pure (hQ _ he')
end
/-- the tuples at a and b at each turn, the items in a new pair within a new pair -/
def IteZ (K : PySem.W.Frag) (a b : Addr) : It :=
  ⟨fun i H => ∃ (xs ys : List V) (x y : V), SqT K H a xs ∧ SqT K H b ys ∧ xs[i]? = some x ∧ ys[i]? = some y,
    fun i H v H' => ∃ T U x y, v = .ref U ∧ H T = none ∧ H U = none ∧ U ≠ T ∧ H' = upd (upd H T (.tup [x, y])) U (.tup [.int (i : Nat), .ref T]) ∧ (∀ xs, SqT K H a xs → xs[i]? = some x) ∧ ∀ ys, SqT K H b ys → ys[i]? = some y,
    fun i H => ∃ xs ys : List V, SqT K H a xs ∧ SqT K H b ys ∧ (xs.length ≤ i ∨ ys.length ≤ i)⟩
theorem turn_enumZ {P : Program} {w : World} {K : PySem.W.Frag} {elts : List Expr} {kk : Nat} {tpos : Pos} {a b z TI TO i1 i2 : Addr} (e : Addr) (D : ZipApart z TI TO i1 i2 a b) :
    Turn P w K (.Tuple elts kk tpos) (IteZ K a b) [e, z, TI, TO, i1, i2] e (fun i h => (∃ old, IsEnum h e z ((i : Nat) : Int) old) ∧ (∃ mk f, MkOk mk ∧ ZipM h z TI TO mk f) ∧ IsPair h TI (.ref i1) (.ref i2) ∧ (∃ x y, IsPair h TO x y) ∧ h.IsTupleIter i1 a i ∧ h.IsTupleIter i2 b i ∧ e ∉ [z, TI, TO, i1, i2]) where
  mem := by simp
  obj := fun i h st c hc => by
    obtain ⟨⟨old, he⟩, ⟨mk, f, hm, hz⟩, hTI, ⟨x, y, hTO⟩, ⟨o1, e1, _, d1⟩, ⟨o2, e2, _, d2⟩, _⟩ := st
    have e' : c = e ∨ c = z ∨ c = TI ∨ c = TO ∨ c = i1 ∨ c = i2 := by simpa using hc
    rcases e' with q | q | q | q | q | q
    · rw [q]; exact ⟨_, he, fun v q => nomatch q⟩
    · rw [q]; exact ⟨_, hz, fun v q => nomatch q⟩
    · rw [q]; exact ⟨_, hTI, fun v q => nomatch q⟩
    · rw [q]; exact ⟨_, hTO, fun v q => nomatch q⟩
    · rw [q]; exact ⟨o1, e1, fun v q => by rw [d1] at q; cases q⟩
    · rw [q]; exact ⟨o2, e2, fun v q => by rw [d2] at q; cases q⟩
  keep := fun i h h' st k => by
    obtain ⟨⟨old, he⟩, ⟨mk, f, hm, hz⟩, hTI, ⟨x, y, hTO⟩, h1, h2, hn⟩ := st
    exact ⟨⟨old, k e (by simp) _ he⟩, ⟨mk, f, hm, k z (by simp) _ hz⟩, k TI (by simp) _ hTI, ⟨x, y, k TO (by simp) _ hTO⟩, h1.at fun o q => k i1 (by simp) o q, h2.at fun o q => k i2 (by simp) o q, hn⟩
  item := by
    intro X hP hw hK hc i pins s σ H E I hf st hg
    subst hP hw hK
    obtain ⟨⟨old, he⟩, ⟨mk, f, hm, hz⟩, hTI, ⟨x0, y0, hTO⟩, h1, h2, hn⟩ := st
    have hn' : e ≠ z ∧ e ≠ TI ∧ e ≠ TO ∧ e ≠ i1 ∧ e ≠ i2 := by simpa using hn
    obtain ⟨nz, nTI, nTO, n1, n2⟩ := hn'
    obtain ⟨xs, ys, x, y, hqx, hqy, hx, hy⟩ := hg
    obtain ⟨its, rv, p, _⟩ := I.tuple hqx
    obtain ⟨its2, rv2, p2, _⟩ := I.tuple hqy
    obtain ⟨u, hu, ru⟩ := rv.get hx
    obtain ⟨u2, hu2, ru2⟩ := rv2.get hy
    have hlt : ∀ c, c ∈ [e, z, TI, TO, i1, i2] → c < s.heap.objs.size := fun c hcm => by
      have e' : c = e ∨ c = z ∨ c = TI ∨ c = TO ∨ c = i1 ∨ c = i2 := by simpa using hcm
      rcases e' with q | q | q | q | q | q
      · rw [q]; exact Heap.lt_size he
      · rw [q]; exact Heap.lt_size hz
      · rw [q]; exact Heap.lt_size hTI
      · rw [q]; exact Heap.lt_size hTO
      · rw [q]; obtain ⟨_, e1, _⟩ := h1; exact Heap.lt_size e1
      · rw [q]; obtain ⟨_, e2, _⟩ := h2; exact Heap.lt_size e2
    refine enum_item_of (R := fun v h' => v = .ref s.heap.objs.size ∧ (∃ mk' f', MkOk mk' ∧ ZipM h' z TI TO mk' f') ∧ (∃ a' b', IsPair h' TO a' b') ∧ h'.IsTupleIter i1 a (i + 1) ∧ h'.IsTupleIter i2 b (i + 1) ∧ IsPair h' s.heap.objs.size u u2 ∧ h'.objs.size = s.heap.objs.size + 1 ∧
      (∀ c o, c ≠ z → c ≠ TO → c ≠ i1 → c ≠ i2 → s.heap.get? c = some o → h'.get? c = some o)) he (fun Q' E' hk => ?_) fun v h₁ h' hR hel ho hT hsz hk => ?_
    · refine nextOf_zip ⟨_, hz, rfl⟩ (zipM_item D hm hz hTI hTO h1 h2 p p2 (x := u) (y := u2) (by simpa using hu) (by simpa using hu2) fun h' mk' f' a' b' m' z' TO' h1' h2' hT hsz hk' => ?_)
      exact hk _ h' (hk' _ _ nz nTO n1 n2 he) ⟨rfl, ⟨mk', f', m', z'⟩, ⟨a', b', TO'⟩, h1', h2', hT, hsz, hk'⟩
    · obtain ⟨rfl, ⟨mk', f', m', z'⟩, ⟨a', b', TO'⟩, h1', h2', hT1, hsz1, hk1⟩ := hR
      have hel0 : e < s.heap.objs.size := Heap.lt_size he
      have hT0e : s.heap.objs.size ≠ e := Nat.ne_of_gt hel0
      have new1 : ObjOk X.prog X.w (upd H s.heap.objs.size (.tup [x, y])) h₁ s.heap.objs.size (.tup [x, y]) :=
        ⟨by show 2 ≤ sizeLine; decide, [u, u2], .cons ru (.cons ru2 .nil), ⟨_, hT1, rfl, _, rfl⟩⟩
      have hf1 : ∀ b ∈ [z, TO, i1, i2], FpOk X pins H b := fun c hcm => hf c (by
        have e' : c = z ∨ c = TO ∨ c = i1 ∨ c = i2 := by simpa using hcm
        rcases e' with q | q | q | q <;> rw [q] <;> simp)
      have I1 : Inv X pins σ (upd H s.heap.objs.size (.tup [x, y])) { s with heap := h₁ } :=
        I.turnedNew (t' := s.toks) (ch := [z, TO, i1, i2]) (fun c o hb q => hk1 c o (fun q' => hb (by simp [q'])) (fun q' => hb (by simp [q'])) (fun q' => hb (by simp [q'])) (fun q' => hb (by simp [q'])) q) hf1 (Nat.le_refl _) new1
      refine ⟨_, rfl, wpAny_letOwnedTupleGo_enum (s := { s with heap := h', toks := s.toks + 1 }) ho fun h'' he' sb => ?_⟩
      have hT2 : h''.get? h₁.objs.size = some { cls := .type "tuple", data := .seq #[.int i s.toks, .ref s.heap.objs.size] } := (sb.2 _ (Nat.ne_of_gt hel)).trans hT
      have new2 : ObjOk X.prog X.w (upd (upd H s.heap.objs.size (.tup [x, y])) h₁.objs.size (.tup [.int (i : Nat), .ref s.heap.objs.size])) h'' h₁.objs.size (.tup [.int (i : Nat), .ref s.heap.objs.size]) :=
        ⟨by show 2 ≤ sizeLine; decide, [.int i s.toks, .ref s.heap.objs.size], .cons ⟨_, rfl⟩ (.cons rfl .nil), ⟨_, hT2, rfl, _, rfl⟩⟩
      have fe : FpOk X pins (upd H s.heap.objs.size (.tup [x, y])) e := by
        obtain ⟨f0, f1⟩ := hf e (by simp)
        exact ⟨by rw [upd_ne hT0e.symm]; exact f0, f1⟩
      have I2 : Inv X pins σ (upd (upd H s.heap.objs.size (.tup [x, y])) h₁.objs.size (.tup [.int (i : Nat), .ref s.heap.objs.size])) { s with heap := h'', toks := s.toks + 1 } :=
        I1.turnedNew (t' := s.toks + 1) (ch := [e]) (fun c o hb q => (sb.2 c (fun q' => hb (by simp [q']))).trans (hk c o (fun q' => hb (by simp [q'])) q)) (fun c hcm => by
          have : c = e := by simpa using hcm
          rw [this]; exact fe) (Nat.le_refl _) new2
      have kk : ∀ c o, c ≠ e → h₁.get? c = some o → h''.get? c = some o := fun c o hc q => (sb.2 c hc).trans (hk c o hc q)
      have fr2 : H h₁.objs.size = none := I.hok.fresh (by rw [hsz1]; exact Nat.le_succ _)
      refine ⟨.ref h₁.objs.size, _, I2, rfl, ⟨s.heap.objs.size, h₁.objs.size, x, y, rfl, I.hok.fresh (Nat.le_refl _), fr2, by rw [hsz1]; exact Nat.succ_ne_self _, rfl, fun l hl => by rw [I.tuple_inj hl hqx]; exact hx, fun l hl => by rw [I.tuple_inj hl hqy]; exact hy⟩, ⟨⟨.ref s.heap.objs.size, ?_⟩, ⟨mk', f', m', kk _ _ nz.symm z'⟩, kk _ _ nTI.symm (hk1 _ _ D.TIz D.TITO D.TIi1 D.TIi2 hTI), ⟨a', b', kk _ _ nTO.symm TO'⟩, h1'.at fun o q => kk _ o n1.symm q, h2'.at fun o q => kk _ o n2.symm q, hn⟩, fun c hcm => ?_⟩
      · have e1 : ((i + 1 : Nat) : Int) = (i : Int) + 1 := by omega
        rw [e1]; exact he'
      · have l0 := hlt c hcm
        rw [upd_ne (Nat.ne_of_lt (by rw [hsz1]; exact Nat.lt_succ_of_lt l0)), upd_ne (Nat.ne_of_lt l0)]
        exact (hf c hcm).1
  done := by
    intro X hP hw hK hc i pins s σ H E I hf st hg
    subst hP hw hK
    obtain ⟨⟨old, he⟩, ⟨mk, f, hm, hz⟩, hTI, ⟨x0, y0, hTO⟩, h1, h2, hn⟩ := st
    obtain ⟨xs, ys, hqx, hqy, hend⟩ := hg
    obtain ⟨its, rv, p, _⟩ := I.tuple hqx
    obtain ⟨its2, rv2, p2, _⟩ := I.tuple hqy
    have l1 := rv.length
    have l2 := rv2.length
    have hq : its.toArray[i]? = none ∨ its2.toArray[i]? = none := by
      rcases hend with q | q
      · exact .inl (by simp; omega)
      · exact .inr (by simp; omega)
    refine enum_end_zip (fp := [e, z, TI, TO, i1, i2]) he (fun Q' E' hE => nextOf_zip ⟨_, hz, rfl⟩ (zipM_end (show X.A.in1.in1.handled = none from I.ok.hd hc) D hm hz hTI hTO h1 h2 p p2 hq fun h' e' hk he' => hE h' e' (fun c o hc q => hk c o (fun q' => hc (by simp [q'])) (fun q' => hc (by simp [q'])) (fun q' => hc (by simp [q'])) (fun q' => hc (by simp [q'])) q) he')) fun h' hk => ⟨rfl, I.turnedL (t' := s.toks) (ch := [e, z, TI, TO, i1, i2]) hk hf⟩
  self := fun A i s Q E st h => let ⟨⟨_, he⟩, _⟩ := st; wpAny_pyIter_enum he h
theorem itr_enumZ {K : PySem.W.Frag} {w : W3} {a b : Addr} {ds es : List PyData} (h : Dp K w.h (.ref a) (.tuple ds)) (h' : Dp K w.h (.ref b) (.tuple es)) : ItR K w (IteZ K a b) (enum3 (zip3 ds es)) fun _ => True := fun w' H S e r _ => by
  obtain ⟨a', xs, ea, hqa, ha⟩ := dp_tup_ref (dp_mono e.h _ _ h)
  obtain ⟨b', ys, eb, hqb, hb⟩ := dp_tup_ref (dp_mono e.h _ _ h')
  cases ea
  cases eb
  have hqa' := Same.sqT r.sub hqa
  have hqb' := Same.sqT r.sub hqb
  have la := DpAll.length ha
  have lb := DpAll.length hb
  refine ⟨fun i hi => ⟨xs, ys, hqa', hqb', by rw [enum3_len, zip3_len] at hi; omega⟩, fun i x hx => ?_⟩
  obtain ⟨x0, g0, rfl⟩ := enum3_get hx
  obtain ⟨x1, x2, g1, g2, rfl⟩ := zip3_get g0
  obtain ⟨v1, k1, k2⟩ := DpAll.get ha g1
  obtain ⟨v2, k3, k4⟩ := DpAll.get hb g2
  refine ⟨⟨xs, ys, v1, v2, hqa', hqb', k1, k3⟩, fun v H' y => ?_⟩
  obtain ⟨T, U, y1, y2, rfl, hn, hn2, hUT, rfl, z1, z2⟩ := y
  have := (z1 _ hqa').symm.trans k1
  cases this
  have := (z2 _ hqb').symm.trans k3
  cases this
  obtain ⟨w1, e1, r1, p1⟩ := pair_in r hn k2 k4
  obtain ⟨w2, e2, r2, p2⟩ := pair_in r1 (T := U) (by rw [upd_ne hUT]; exact hn2) (.int ((i : Nat) : Int)) p1
  exact ⟨w2, e1.trans e2, r2, p2⟩
section
variable {X : Cx} {e e2 : Expr} {ta : TA} {te : TA3} {p p2 pos pos2 tpos : Pos} {elts : List Expr} {kk : Nat}
def iEnumZ (K : PySem.W.Frag) (ta : TA) : TI := fun σ H R => ta σ H fun vs H1 => ∃ a b xs ys, vs = [.ref a, .ref b] ∧ SqT K H1 a xs ∧ SqT K H1 b ys ∧ R (IteZ K a b) H1
theorem pi_enumZ (hg : Gl X "enumerate") (hm : X.mg "enumerate" = none) (hg2 : Gl X "zip") (hm2 : X.mg "zip" = none) (ha : PA X [e, e2] ta)
    (hs : starEach [e, e2] X.env = (false, eval e X.env) :: starEach [e2] X.env := by rfl) (hpl : (backTo pos2 (starEach [e2] X.env)).any (·.1) = false := by rfl)
    (hs2 : starEach [.Call (.Name "zip" p2) [e, e2] [] pos2] X.env = (false, eval (.Call (.Name "zip" p2) [e, e2] [] pos2) X.env) :: starEach [] X.env := by rfl) :
    PI X (.Tuple elts kk tpos) (.Call (.Name "enumerate" p) [.Call (.Name "zip" p2) [e, e2] [] pos2] [] pos) (iEnumZ X.K ta) := by
  refine ⟨fun pins s σ H R I h => ?_⟩
  have inner : wpAny (model X.prog X.w) X.A (eval (.Call (.Name "zip" p2) [e, e2] [] pos2) X.env) (fun u s2 => ∃ (z a b : Addr) (H1 : Hp) (s0 : Shared), u = Value.ref z ∧ Inv X pins σ H1 s2 ∧ (∃ TI TO i1 i2, ZipApart z TI TO i1 i2 a b ∧ IsZip s2.heap z TI TO .none ∧ IsPair s2.heap TI (.ref i1) (.ref i2) ∧ (∃ x y, IsPair s2.heap TO x y) ∧ s2.heap.IsTupleIter i1 a 0 ∧ s2.heap.IsTupleIter i2 b 0 ∧ ∀ c ∈ [z, TI, TO, i1, i2], FpOk X pins H1 c) ∧ R (IteZ X.K a b) H1) X.xe s := by
    refine Call_ (ld_blt I hg2 hm2 PyProof.Rows.boot_zip (PyProof.Rows.callWith_type1 (thn (ha.run pos2 pins s σ H _ I h) fun us s1 ⟨vs, H1, I1, r1, q1⟩ => ?_) hs hpl))
    obtain ⟨a, b, xs, ys, ex, hqx, hqy, q⟩ := q1
    subst ex
    cases r1 with
    | cons r rr =>
      cases rr with
      | cons r' rr =>
        cases rr
        cases r
        cases r'
        have fresh5 : ∀ c, c ∈ [s1.heap.objs.size + 4, s1.heap.objs.size + 2, s1.heap.objs.size + 3, s1.heap.objs.size, s1.heap.objs.size + 1] → FpOk X pins H1 c := fun c hcm => by
          have e' : c = s1.heap.objs.size + 4 ∨ c = s1.heap.objs.size + 2 ∨ c = s1.heap.objs.size + 3 ∨ c = s1.heap.objs.size ∨ c = s1.heap.objs.size + 1 := by simpa using hcm
          have hle : s1.heap.objs.size ≤ c := by
            rcases e' with z | z | z | z | z
            · rw [z]; exact Nat.le_add_right _ _
            · rw [z]; exact Nat.le_add_right _ _
            · rw [z]; exact Nat.le_add_right _ _
            · rw [z]; exact Nat.le_refl _
            · rw [z]; exact Nat.le_add_right _ _
          exact I1.fpOk hle (I1.hok.fresh hle)
        obtain ⟨its, rv, p1, _⟩ := I1.tuple hqx
        obtain ⟨its2, rv2, p2, _⟩ := I1.tuple hqy
        obtain ⟨o1, ho1, _⟩ := id p1
        obtain ⟨o2, ho2, _⟩ := id p2
        refine RZ.call_zipT (show s1.heap.IsTuple a its.toArray from p1) (show s1.heap.IsTuple b its2.toArray from p2) fun h' hz hTI hTO h1 h2 hsz hk => ?_
        have I2 : Inv X pins σ H1 { s1 with heap := h' } := I1.kept (t' := s1.toks) hk
        exact ⟨s1.heap.objs.size + 4, a, b, H1, s1, rfl, I2, ⟨s1.heap.objs.size + 2, s1.heap.objs.size + 3, s1.heap.objs.size, s1.heap.objs.size + 1, PySem.W.ktu_apart s1.heap.objs.size a b (Heap.lt_size ho1) (Heap.lt_size ho2), hz, hTI, ⟨_, _, hTO⟩, h1, h2, fresh5⟩, q⟩
  refine Call_ (ld_blt I hg hm boot_enumerate (PyProof.Rows.callWith_type1 (args_cons (thn inner fun u s2 hx => args_nil ?_) hs2) hs2 rfl))
  obtain ⟨z, a, b, H1, _, rfl, I2, ⟨TI, TO, i1, i2, D, hz, hTI, hTO, h1, h2, hf⟩, q⟩ := hx
  refine call_enumG (v := .ref z) (hp' := fun h => h) (it := fun _ => z) (H := fun h => IsZip h z TI TO .none) (fun prog w A E s Q h1 hQ => wpAny_pyIter_zip h1 hQ) hz (fun b o x => x) fun h' he hk hsz => wpAny_pyIter_enum he ?_
  have I3 : Inv X pins σ H1 { s2 with heap := h' } := I2.kept (t' := s2.toks) hk
  have hl : ∀ c ∈ [z, TI, TO, i1, i2], c < s2.heap.objs.size := fun c hcm => by
    have e' : c = z ∨ c = TI ∨ c = TO ∨ c = i1 ∨ c = i2 := by simpa using hcm
    rcases e' with q | q | q | q | q
    · rw [q]; exact Heap.lt_size hz
    · rw [q]; exact Heap.lt_size hTI
    · rw [q]; obtain ⟨_, _, hTO⟩ := hTO; exact Heap.lt_size hTO
    · rw [q]; obtain ⟨_, e1, _⟩ := h1; exact Heap.lt_size e1
    · rw [q]; obtain ⟨_, e2, _⟩ := h2; exact Heap.lt_size e2
  refine ⟨s2.heap.objs.size, [s2.heap.objs.size, z, TI, TO, i1, i2], _, _, H1, rfl, I3, turn_enumZ s2.heap.objs.size D, ⟨⟨.none, he⟩, ⟨.none, false, .inl rfl, hk _ _ hz⟩, hk _ _ hTI, ?_, h1.at fun o q => hk _ o q, h2.at fun o q => hk _ o q, fun z => absurd (hl _ z) (Nat.lt_irrefl _)⟩, fun b hb => ?_, q⟩
  · obtain ⟨x, y, hTO⟩ := hTO
    exact ⟨x, y, hk _ _ hTO⟩
  · rcases List.mem_cons.mp hb with z | z
    · rw [z]
      exact I2.fpOk (Nat.le_refl _) (I2.hok.fresh (Nat.le_refl _))
    · exact hf b z
def tEnumZ3 (te : TA3) : TI3 := fun env S Q => te env S fun ds S1 => match ds with
  | [.p (.tuple xs), .p (.tuple ys)] => Q (enum3 (zip3 xs ys)) (fun _ => True) S1
  | _ => False
theorem qi_enumZ (hc : X.calm = true) (hg : Gl X "enumerate") (hm : X.mg "enumerate" = none) (hg2 : Gl X "zip") (hm2 : X.mg "zip" = none) (ha : QA X [e, e2] te)
    (hs : starEach [e, e2] X.env = (false, eval e X.env) :: starEach [e2] X.env := by rfl) (hpl : (backTo pos2 (starEach [e2] X.env)).any (·.1) = false := by rfl)
    (hs2 : starEach [.Call (.Name "zip" p2) [e, e2] [] pos2] X.env = (false, eval (.Call (.Name "zip" p2) [e, e2] [] pos2) X.env) :: starEach [] X.env := by rfl) :
    QI X (.Tuple elts kk tpos) (.Call (.Name "enumerate" p) [.Call (.Name "zip" p2) [e, e2] [] pos2] [] pos) (tEnumZ3 te) := (pi_enumZ hg hm hg2 hm2 ha hs hpl hs2).imp fun σ H R ⟨w, env, S, Q, r0, en, t, q⟩ => by
  refine ⟨w, env, S, _, r0, en, t, fun w1 vs ds H1 S1 e1 r1 p1 t1 => ?_⟩
  split at t1
  · obtain ⟨v, v2, rfl, p2, p3⟩ := rds2 p1
    obtain ⟨a, xs, rfl, hqa, ha⟩ := dp_tup_ref p2
    obtain ⟨b, ys, rfl, hqb, hb⟩ := dp_tup_ref p3
    have l1 := len_tup r1 p2
    refine ⟨a, b, xs, ys, rfl, Same.sqT r1.sub hqa, Same.sqT r1.sub hqb, q w1 _ H1 S1 _ _ e1 r1 (itr_enumZ p2 p3) (by rw [enum3_len, zip3_len]; omega) t1⟩
  · exact t1.elim
end
/-- walk_ofG over the part without empty tuples and tuples of ints -/
theorem walk_ofGE {l : PySem.W.OpenLaw} {n k : Nat} {q : Program} {loose : List Str} {XP : (Str → Option Value) → Heap → Prop} {YP : World → Heap → Prop} {d : DefRec} {K : Params → PySem.W.Frag} {sp : World → L2.Sp} {x : Str}
    (hn : l.most = some n) (hn2 : n ≤ sizeLine) (hdf : d.params.defaults = []) (hr : Room k callerA)
    (hY : ∀ (w : World) (h : Heap), YP w h → (K w.params).In h) (hs : ∀ w : World, ascB (K w.params) = true)
    (F : ∀ (w : World) (mg : Str → Option Value) (fa : Addr) (h : Heap), (filtK (K w.params)).In h → h.Ns mainGlobals mg → mg d.name = some (.ref fa) →
      ∃ fd : FuncData, (∀ (s : Shared) (u : Value), BindsTo s fd ⟨[u], []⟩ [(x, u)]) ∧
        ∀ base : Heap, (filtK (K w.params)).In base → base.Ns mainGlobals mg → FnG l.prog w (filtK (K w.params)) mg base k fa fd [x] (sp w))
    (hsp : ∀ (w : World) (H : Hp) (a : Addr) (ns : List Int), ns.length ≤ n → Only H → SqL (filtK (K w.params)) H a (ns.map V.int) → sp w [.ref a] H (fun v _ => v = .bl true) fun _ _ _ => False) :
    PySem.W.WalkO q loose XP YP l.row.toRowW d [] (fun f vs => PySem.call f vs) :=
  walk_ofG (K := fun p => filtK (K p)) hn hn2 hdf hr (fun w h Y => in_filt (hs w) (hY w h Y)) F hsp
theorem walk_ofDE {l : PySem.W.OpenLaw} {n k : Nat} {q : Program} {loose : List Str} {XP : (Str → Option Value) → Heap → Prop} {YP : World → Heap → Prop} {d : DefRec} {K : Params → PySem.W.Frag} {sp : World → L2.Sp} {x : Str}
    (hn : l.most = some n) (hn2 : n ≤ sizeLine) (hdf : d.params.defaults = []) (hr : Room k callerA)
    (hY : ∀ (w : World) (h : Heap), YP w h → (K w.params).In h) (hs : ∀ w : World, ascB (K w.params) = true)
    (F : ∀ (w : World) (mg : Str → Option Value) (fa : Addr) (h : Heap), (filtK (K w.params)).In h → h.Ns mainGlobals mg → mg d.name = some (.ref fa) →
      ∃ fd : FuncData, (∀ (s : Shared) (u : Value), BindsTo s fd ⟨[u], []⟩ [(x, u)]) ∧
        ∀ base : Heap, (filtK (K w.params)).In base → base.Ns mainGlobals mg → base.NoDigits → FnG l.prog w (filtK (K w.params)) mg base k fa fd [x] (sp w))
    (hsp : ∀ (w : World) (H : Hp) (a : Addr) (ns : List Int), ns.length ≤ n → Only H → SqL (filtK (K w.params)) H a (ns.map V.int) → sp w [.ref a] H (fun v _ => v = .bl true) fun _ _ _ => False) :
    PySem.W.WalkO q loose XP YP l.row.toRowW d [] (fun f vs => PySem.call f vs) :=
  walk_ofD (K := fun p => filtK (K p)) hn hn2 hdf hr (fun w h Y => in_filt (hs w) (hY w h Y)) F hsp
theorem filt_keep {a : Addr} {o : Obj} (ho : tupOk o = true) : ∀ {K : PySem.W.Frag}, K.lookup a = some o → (filtK K).lookup a = some o
  | [], h => nomatch h
  | (b, x) :: K, h => by
    unfold filtK
    rw [List.filter_cons]
    rw [List.lookup_cons] at h
    split at h
    · rename_i e
      cases h
      rw [if_pos ho, List.lookup_cons, e]
    · rename_i e
      have ih := filt_keep ho h
      split
      · rw [List.lookup_cons, e]
        exact ih
      · exact ih
theorem nsIn_filt {K : PySem.W.Frag} {a : Addr} {x : Str} {r : Option Value} (h : PySem.W.nsIn K a x = some r) : PySem.W.nsIn (filtK K) a x = some r := by
  unfold PySem.W.nsIn at h ⊢
  split at h
  · rename_i hl
    rw [filt_keep (by rfl) hl]
    exact h
  · cases h
theorem codeIn_filt {K : PySem.W.Frag} {v : Value} {x : Str} (h : PySem.W.codeIn K v x = true) : PySem.W.codeIn (filtK K) v x = true := by
  unfold PySem.W.codeIn at h ⊢
  split at h
  · split at h
    · rename_i hl
      rw [filt_keep (by rfl) hl]
      exact h
    · cases h
  · cases h
theorem keepIn_filt {K : PySem.W.Frag} {f : Addr} {c : Value} {d : Option Addr} {fd : FuncData} {sl : Array (Option Value)} (h : K.lookup f = some ⟨c, d, .func fd, sl⟩) : PySem.W.keepIn (filtK K) (.ref f) = true := by
  unfold PySem.W.keepIn
  simp only
  rw [filt_keep (by rfl) h]
end L3

set_option maxHeartbeats 1000000
/-! ### sorted(..) of tuples, empty ones among them -/
namespace L3
open PySem PySem.Spec PySem.Calls PyProof.Rows
section
open PySem.W PySem.SeqAt
variable {prog : Program} {w : World} {A : Around} {E : Value → Shared → Prop} {s : Shared}
/-- the call of tuple's own __lt__, as sorting makes it -/
theorem call_tuple_lt {Q : Value → Shared → Prop} {l b : Addr} {items items2 : Array Value} {e r : Nat → Bool} (hl : s.heap.IsTuple l items) (hb : s.heap.IsTuple b items2)
    (he : ∀ j (h1 : j < items.size) (h2 : j < items2.size), EqAt A.in1 s items[j] items2[j] (e j)) (hr : ∀ j (h1 : j < items.size) (h2 : j < items2.size), e j = false → RcLt A.in1 s items[j] items2[j] (r j))
    (h : Q (.bool (firstLt e r (decide (items.size < items2.size)) (List.range (min items.size items2.size)))) s) : wpAny (model prog w) A (call (.builtin "tuple.__lt__") [.ref l, .ref b]) Q E s := by
  obtain ⟨⟨cls, dd, data, sl⟩, ho, hc, n, hd⟩ := id hl
  obtain ⟨⟨cls2, dd2, data2, sl2⟩, ho2, hc2, n2, hd2⟩ := id hb
  simp only at hc hd hc2 hd2
  subst hc hd hc2 hd2
  exact call_meets F.slot_tuple_lt ⟨_, ho, rfl⟩ F.entry_tuple_lt (F.args_tuple_lt_2 _ _) (PySem.SeqAt.tuple_ltAt l b items items2 n n2 dd dd2 sl sl2 e r) ⟨ho, ho2, he, hr, h⟩
theorem oneLt_tup {f : Bool} {xs ys : List PyData} {a b : Value} {as bs : List Addr} {Q : Bool → Shared → Prop} (ra : Reads s.heap a (.tuple xs) as) (rb : Reads s.heap b (.tuple ys) bs) (h : alike (.tuple xs) (.tuple ys) = true)
    (hu : A.units + min (PyData.tuple xs).depth (PyData.tuple ys).depth < cLine) (hq : Q (dataLt (.tuple xs) (.tuple ys)) s) : wpAny (model prog w) A (oneLt' f a b) Q E s := by
  cases f with
  | false => exact oneLt_alike (fun z => nomatch z) ra rb h (by simp) hu hq
  | true =>
    have hal : alikeAll xs ys = true := by simpa [alike] using h
    cases ra with
    | @tuple l o vs n _ as₁ h1 h2 h3 h4 =>
      cases rb with
      | @tuple l' o' vs' n' _ bs₁ k1 k2 k3 k4 =>
        have n1 : vs.size = xs.length := by simpa using ReadsAll.length _ _ _ h4
        have n2 : vs'.size = ys.length := by simpa using ReadsAll.length _ _ _ k4
        rw [dataLt_tuple, ← firstLt_toks xs ys hal, ← n1, ← n2] at hq
        rw [oneLt'_eq]
        simp only [if_true]
        refine wpAny_bind (wpAny_cRoomFor (room_here hu) ?_)
        refine wpAny_bind (wpAny_callSpecialIfBound?_slot (T := "tuple") ⟨_, h1, h2⟩ F.slot_tuple_lt (call_tuple_lt (e := pairEq xs ys) (r := fun j => dataLt (xs.getD j .none) (ys.getD j .none)) ⟨_, h1, h2, _, h3⟩ ⟨_, k1, k2, _, k3⟩ (fun j j1 j2 => ?_) (fun j j1 j2 hj => ?_) ?_))
        · have := eqAt_alikeAll xs ys A.in1 s vs.toList vs'.toList _ _ h4 k4 hal (room_in hu) j (by simpa using j1) (by simpa using j2)
          simpa using this
        · have := rcLt_alikeAll xs ys A.in1 s vs.toList vs'.toList _ _ h4 k4 hal (room_in hu) j (by simpa using j1) (by simpa using j2) hj
          simpa using this
        · exact wpAny_truthy_bool hq
end
section
open PySem.W
variable {M : Model} {A : Around} {E : Value → Shared → Prop} {s : Shared}
/-- tuples with what stands first in each -/
def TupsO (h : Heap) : List Value → List (Option Value) → Prop
  | [], [] => True
  | v :: vs, f :: fs => (∃ a o xs n, v = .ref a ∧ h.get? a = some o ∧ o.cls = .type "tuple" ∧ o.data = .seq xs n ∧ xs[0]? = f) ∧ TupsO h vs fs
  | _, _ => False
theorem firstsO : ∀ (vs : List Value) (fs : List (Option Value)) {Q : List (Option Value) → Shared → Prop}, TupsO s.heap vs fs → Q fs s → wpAny M A (vs.mapM firstOfTuple') Q E s
  | [], [], _, _, h => by rw [List.mapM_nil]; exact wpAny_pure h
  | [], _ :: _, _, t, _ => t.elim
  | _ :: _, [], _, t, _ => t.elim
  | v :: vs, f :: fs, Q, t, h => by
    obtain ⟨⟨a, o, xs, n, rfl, ho, hc, hd, hf⟩, t⟩ := t
    rw [List.mapM_cons]
    refine wpAny_bind ?_
    rw [kas_first_eq]
    refine wpAny_bind (Looks.here (show Looks M s.heap (typeOf (.ref a)) o.cls from (Looks.ld ho).andThen .now) ?_)
    rw [hc, if_neg (by first | decide | simp)]
    refine wpAny_bind (listItems_at ho hd (wpAny_pure ?_))
    rw [hf]
    exact wpAny_bind (firstsO vs fs (Q := fun bs s' => wpAny M A (pure (f :: bs)) Q E s') t (wpAny_pure h))
theorem tupsO_looks : ∀ {vs : List Value} {fs : List (Option Value)}, TupsO s.heap vs fs → ∀ v ∈ vs, Looks M s.heap (typeOf v) (.type "tuple")
  | [], _, _, v, hv => nomatch hv
  | _ :: _, [], t, _, _ => t.elim
  | u :: vs, f :: fs, t, v, hv => by
    obtain ⟨⟨a, o, xs, n, rfl, ho, hc, hd, hf⟩, t⟩ := t
    rcases List.mem_cons.mp hv with rfl | hv
    · show Looks M s.heap (typeOf (.ref a)) (.type "tuple")
      exact hc ▸ (Looks.ld ho).andThen .now
    · exact tupsO_looks t v hv
theorem tupsO_len : ∀ {vs : List Value} {fs : List (Option Value)} {h : Heap}, TupsO h vs fs → vs.length = fs.length
  | [], [], _, _ => rfl
  | [], _ :: _, _, t => t.elim
  | _ :: _, [], _, t => t.elim
  | _ :: vs, _ :: fs, _, t => by rw [List.length_cons, List.length_cons, tupsO_len t.2]
/-- some tuple is empty: the kind of keys -/
theorem kindO {vs : List Value} {fs : List (Option Value)} {Q : SortKind → Shared → Prop} (t : TupsO s.heap vs fs) (hn : none ∈ fs) (h : Q (if (fs.toArray[0]?.bind id).isSome = true then general' else oneType') s) :
    wpAny M A (keyKind' vs.toArray) Q E s := by
  rw [kat_kind_eq, List.mapM_toArray, map_eq_pure_bind]
  refine wpAny_bind (wpAny_bind (firstsO vs fs t (wpAny_pure ?_)))
  have hall : ¬ (fs.toArray.all fun x => x.isSome) = true := by
    intro z
    simp only [List.all_toArray, List.all_eq_true] at z
    exact absurd (z none hn) (by simp)
  rw [if_neg hall]
  by_cases hf : (fs.toArray[0]?.bind id).isSome = true
  · rw [if_pos hf] at h ⊢
    exact wpAny_pure h
  · rw [if_neg hf] at h ⊢
    rw [oneTypeOnly'_eq, List.mapM_toArray, map_eq_pure_bind]
    refine wpAny_bind (wpAny_bind (wpAny_bind (kas_mapM (r := Value.type "tuple") _ (fun v hv Q' hq => (tupsO_looks t v hv).here hq) (wpAny_pure ?_))))
    have hl := tupsO_len t
    obtain ⟨v₁, vr, rfl⟩ : ∃ v₁ vr, vs = v₁ :: vr := by
      match vs, fs, hn, hl with
      | [], [], hn, _ => exact absurd hn (by simp)
      | v₁ :: vr, _, _, _ => exact ⟨v₁, vr, rfl⟩
    have hall2 : ((List.map (fun _ => Value.type "tuple") (v₁ :: vr)).toArray.all fun x => x == Value.type "tuple") = true := by
      simp only [List.all_toArray, List.all_map, List.all_eq_true]
      intro _ _
      exact beq_self_eq_true _
    have h0 : (List.map (fun _ => Value.type "tuple") (v₁ :: vr)).toArray[0]? = some (Value.type "tuple") := by simp
    rw [h0]
    simp only [hall2, if_true]
    exact wpAny_pure (wpAny_pure h)
theorem each_tupsO {h : Heap} : ∀ {vs : List Value} {ds : List PyData}, EachIs (fun v d => ∃ as, Reads h v d as) vs ds → (∀ d ∈ ds, ∃ xs, d = .tuple xs) → ∃ fs, TupsO h vs fs ∧ (.tuple [] ∈ ds → none ∈ fs)
  | _, _, .nil, _ => ⟨[], trivial, fun h => nomatch h⟩
  | _, _, .cons (b := d) ⟨as, r⟩ t, ht => by
    obtain ⟨fs, h1, h2⟩ := each_tupsO t fun d hd => ht d (List.mem_cons_of_mem _ hd)
    obtain ⟨xs, rfl⟩ := ht d List.mem_cons_self
    cases r with
    | @tuple a o vs n _ _ ho hc hd hr =>
      refine ⟨vs[0]? :: fs, ⟨⟨a, o, vs, n, rfl, ho, hc, hd, rfl⟩, h1⟩, fun hm => ?_⟩
      rcases List.mem_cons.mp hm with e | hm
      · cases e
        have hz : vs.toList = [] := by
          cases q : vs.toList with
          | nil => rfl
          | cons x y => rw [q] at hr; cases hr
        have : vs[0]? = none := by rw [← Array.getElem?_toList, hz]; rfl
        rw [this]
        exact List.mem_cons_self
      · exact List.mem_cons_of_mem _ (h2 hm)
end
section
open PySem.W
variable {prog : Program} {w : World} {A : Around} {s : Shared}
theorem sortsAt_tups {vs : List Value} {ds : List PyData} (e : EachIs (fun v d => ∃ as, Reads s.heap v d as) vs ds) (hal : AllAlike ds) (ht : ∀ d ∈ ds, ∃ xs, d = .tuple xs) (hu : ∀ d, d ∈ ds → A.units + d.depth < cLine) : SortsAt prog w A s (dataKind s.heap ds) vs := by
  by_cases hem : PyData.tuple [] ∈ ds
  · have room : ∀ {d d' : PyData}, d ∈ ds → A.units + min d.depth d'.depth < cLine := fun {d d'} hd => Nat.lt_of_le_of_lt (Nat.add_le_add_left (Nat.min_le_left _ _) _) (hu d hd)
    have key : ∀ v, v ∈ vs → ∃ a, (dataKind s.heap ds).keyOf v = some a := fun v hv => by
      obtain ⟨d, hd, as, r⟩ := e.left v hv
      exact ⟨_, dataKind_some hal hd r⟩
    obtain ⟨fs, h1, h2⟩ := each_tupsO e ht
    have lt : ∀ f : Bool, H.LtAt prog w A s (dataKind s.heap ds) (if f = true then oneType' else general') := by
      intro f E x y a b Q ha hb hq
      obtain ⟨d, as, hd, ra, rfl⟩ := dataKind_inv ha
      obtain ⟨d', as', hd', rb, rfl⟩ := dataKind_inv hb
      obtain ⟨xs, rfl⟩ := ht d hd
      obtain ⟨ys, rfl⟩ := ht d' hd'
      cases f with
      | true =>
        simp only [if_true]
        rw [keyLt'_oneType]
        exact oneLt_tup ra rb (hal _ hd _ hd') (room hd) hq
      | false =>
        simp only [Bool.false_eq_true, if_false]
        show wpAny (model prog w) A (oneLt' false x y) Q E s
        exact oneLt_tup ra rb (hal _ hd _ hd') (room hd) hq
    refine ⟨key, if (fs.toArray[0]?.bind id).isSome = true then general' else oneType', ?_, fun _ E Q hq => kindO h1 (h2 hem) hq⟩
    by_cases hf : (fs.toArray[0]?.bind id).isSome = true
    · rw [if_pos hf]
      exact lt false
    · rw [if_neg hf]
      exact lt true
  · refine SortsAt.data e hal (.inl fun d hd => ?_) hu
    obtain ⟨xs, rfl⟩ := ht d hd
    cases xs with
    | nil => exact absurd hd hem
    | cons x r => exact ⟨x, r, rfl⟩
end
section
open PySem.W
variable {prog : Program} {w : World} {A : Around} {E : Value → Shared → Prop} {s : Shared} {β : Type} {vs : List Value} {bs : List β} {enc : β → PyData} {R : Value → β → Prop}
/-- sorted(xs) of tuples -/
theorem sorted_tups {l : Addr} {Q : Value → Shared → Prop} (hl : s.heap.IsList l vs.toArray) (e : EachIs R vs bs) (er : EachIs (fun v b => ∃ as, Reads s.heap v (enc b) as) vs bs) (hal : AllAlike (bs.map enc)) (ht : ∀ d ∈ bs.map enc, ∃ xs, d = .tuple xs) (hL : bs.length ≤ sizeLine)
    (hu : ∀ b, b ∈ bs → A.units + 2 + (enc b).depth < cLine) (h : ∀ out, out.length = bs.length → EachIs R out (bs.mergeSort (dataLe false enc)) → Q (.ref (s.heap.objs.size + 1)) { s with heap := sortedAll s.heap vs (List.toArray out) }) :
    wpAny (model prog w) A (call (.builtin "sorted") [.ref l]) Q E s := by
  have er' : EachIs (fun v b => ∃ as, Reads (sortingHeap (copyHeap s.heap vs) (s.heap.objs.size + 1) vs) v (enc b) as) vs bs := er.mono fun _ _ ⟨as, r⟩ => ⟨as, PyProof.Rows.Reads.keeps (fun _ _ => sorting_copy_old) r⟩
  exact sorted_vals hl (sortsAt_tups (s := { s with heap := sortingHeap (copyHeap s.heap vs) (s.heap.objs.size + 1) vs }) (each_map (R := fun v d => ∃ as, Reads (sortingHeap (copyHeap s.heap vs) (s.heap.objs.size + 1) vs) v d as) enc er') hal ht (bound_map hu)) (by rw [e.length]; exact hL)
    (h _ (by rw [sortVals_length false rfl]; exact e.length) (sortVals_data false e er' hal))
end
def AllTup (ds : List PyData) : Prop := ∀ d ∈ ds, ∃ xs, d = .tuple xs
open L2
section
variable {X : Cx}
open PySem.W in
def rSortedTE : List V → Hp → VK → Prop := fun vs H Q => ∃ (d : Addr) (kvs : List (List Key × V)), vs = [V.ref d] ∧ Rd H d (.dT kvs) ∧ AllAlike (kvs.map fun p => keyPd p.1) ∧ AllTup (kvs.map fun p => keyPd p.1) ∧ (∀ e ∈ kvs.map (fun p => keyPd p.1), e.depth ≤ 60) ∧
  ∀ p bs, H p = none → KeysAt H kvs bs → kvs.length ≤ sizeLine → Q (.ref p) (upd H p (.lst ((((bs.map V.ref).zip (kvs.map fun p => keyPd p.1)).mergeSort (dataLe false Prod.snd)).map (·.1))))
open PySem.W in
theorem cr_sortedTE (hcalm : X.calm = true) (hu : X.A.units + 64 < cLine) : CallR X (.builtin "sorted") rSortedTE := by
  intro pins s σ H vs us Q I r h
  obtain ⟨d, kvs, rfl, hd, hal, hk, hdep, q⟩ := h
  obtain ⟨u, rfl, rx⟩ := r.one
  cases rx
  obtain ⟨z, hs, ks, pr, o, es, ep, ho, hx, hdt, he, hn⟩ := (show ObjOk X.prog X.w H s.heap d (.dT kvs) from hd.ok I.hok)
  have l1 : es.size = ks.length := size_of_entries he
  have l2 : kvs.length = ks.length := Paired.length pr
  refine Calls.call_function_entry PyProof.Rows.kind_sorted PyProof.Rows.plain_sorted PyProof.Rows.entry_sorted (PyProof.Rows.args_sorted1 _) ?_
  unfold Builtin.«sorted»
  refine wpAny_bind (m := checkCount "sorted" 1 1 _) (wpAny_pure ?_)
  refine wpAny_bind (PySem.W.kdu_collect (A := X.A.in1) (kdl_raw hs hx hdt) (I.ok.hd hcalm) ho (by omega) fun h' tk acc hkp it => ?_)
  have hacl : acc.toList.length = ks.length := by rw [Array.length_toList, it.1]; exact l1
  have ea : acc.toList = (ks.map fun x => x.2.1).map Value.ref := by
    rw [List.map_map]
    apply List.ext_getElem?
    intro j
    rw [List.getElem?_map]
    cases hj : acc.toList[j]? with
    | none =>
      have h1 := List.getElem?_eq_none_iff.mp hj
      rw [List.getElem?_eq_none (by omega)]
      all_goals rfl
    | some v =>
      obtain ⟨en, hen, hv⟩ := it.2 j v (by rw [← Array.getElem?_toList]; exact hj)
      have qe := entry_at he j
      rw [hen] at qe
      cases hb : ks[j]? with
      | none =>
        rw [hb] at qe
        exact nomatch (show some en = none from qe)
      | some b =>
        rw [hb] at qe
        have e2 : en = entryOfKey (tupleKind (mixKind X.prog X.w)) b := Option.some.inj qe
        rw [hv, e2]
        all_goals rfl
  have rv : Vals ((ks.map fun x => x.2.1).map V.ref) acc.toList := by rw [ea]; exact vals_refs _
  have hka : KeysAt H kvs (ks.map fun x => x.2.1) := keysAt_of I.hok pr
  have hdp : DpAll X.K H ((ks.map fun x => x.2.1).map V.ref) (kvs.map fun p => keyPd p.1) := dpAll_keys hka
  obtain ⟨e1, e2⟩ := each_zip I rv hdp
  generalize hbs : ((ks.map fun x => x.2.1).map V.ref).zip (kvs.map fun p => keyPd p.1) = bs at e1 e2
  have hm : bs.map Prod.snd = kvs.map fun p => keyPd p.1 := by
    rw [← hbs]
    exact zip_snd (by simp [l2])
  have hbl : bs.length = ks.length := by rw [← hbs, List.length_zip]; simp [l2]
  have I1 : L2.Inv X pins σ H { s with heap := h', toks := tk } := I.kept hkp
  refine wpAny_bind (wpAny_newList ?_ (by rw [hacl]; omega))
  have hoL : (h'.push (seqObj "list" acc.toList.toArray 0)).get? h'.objs.size = some (seqObj "list" acc.toList.toArray 0) := Heap.get?_push_size _ rfl
  show wpAny _ _ _ _ _ { s with heap := h'.push (seqObj "list" acc.toList.toArray 0), toks := tk }
  have old : ∀ b o, s.heap.get? b = some o → (sortingHeap (h'.push (seqObj "list" acc.toList.toArray 0)) h'.objs.size acc.toList).get? b = some o := fun b o e =>
    sortingHeap_old (Nat.ne_of_lt (Heap.lt_size (hkp b o e))) (Heap.get?_push_of_some _ (hkp b o e))
  have er' : EachIs (fun v b => ∃ as, Reads (sortingHeap (h'.push (seqObj "list" acc.toList.toArray 0)) h'.objs.size acc.toList) v (Prod.snd b) as) acc.toList bs := e2.mono fun _ _ ⟨as, r⟩ => ⟨as, PyProof.Rows.Reads.keeps old r⟩
  have hub : ∀ b, b ∈ bs → X.A.in1.in1.units + (Prod.snd b).depth < cLine := fun b hb => by
    have : b.2 ∈ kvs.map fun p => keyPd p.1 := by
      rw [← hm]
      exact List.mem_map.mpr ⟨b, hb, rfl⟩
    have := hdep _ this
    show X.A.units + 1 + 1 + _ < cLine
    omega
  refine wpAny_bind (wpAny_holding (wpAny_call_entry PyProof.Rows.slot_list_sort ⟨_, hoL, rfl⟩ PyProof.Rows.entry_list_sort
    (list_sort_vals (κ := dataKind (sortingHeap (h'.push (seqObj "list" acc.toList.toArray 0)) h'.objs.size acc.toList) (bs.map Prod.snd)) hoL (sortsAt_tups (s := { s with heap := sortingHeap (h'.push (seqObj "list" acc.toList.toArray 0)) h'.objs.size acc.toList, toks := tk }) (each_map (R := fun v d => ∃ as, Reads (sortingHeap (h'.push (seqObj "list" acc.toList.toArray 0)) h'.objs.size acc.toList) v d as) Prod.snd er') (by rw [hm]; exact hal) (by rw [hm]; exact hk) (bound_map hub)) (by rw [hacl]; omega) ⟨_, rfl, ?_⟩)
    (PyProof.Rows.args_list_sort _)))
  have hR := sortVals_data (enc := Prod.snd) false e1 er' (by rw [hm]; exact hal)
  obtain ⟨e', he'⟩ := PyProof.Rows.sortedHeap_at (vs := acc.toList) (out := (sortVals (dataKind (sortingHeap (h'.push (seqObj "list" acc.toList.toArray 0)) h'.objs.size acc.toList) (bs.map Prod.snd)) false acc.toList acc.toList).toArray) hoL
  have hl2 : ((bs.mergeSort (dataLe false Prod.snd)).map (·.1)).length ≤ sizeLine := by
    rw [List.length_map, List.length_mergeSort, hbl]
    omega
  have q' := q h'.objs.size (ks.map fun x => x.2.1) (I1.hok.fresh (Nat.le_refl _)) hka z
  rw [hbs] at q'
  refine wpAny_pure ⟨_, rfl, .ref h'.objs.size, upd H h'.objs.size (.lst ((bs.mergeSort (dataLe false Prod.snd)).map (·.1))), I1.laid (t' := tk) (fun b u e => ?_) (Nat.le_refl _) ⟨hl2, _, e', vals_each hR, he'⟩, rfl, q'⟩
  have hb : b < h'.objs.size := Heap.lt_size e
  rw [PyProof.Rows.sortedHeap_old (Nat.ne_of_lt hb) (by rw [size_push']; exact Nat.lt_succ_of_lt hb)]
  exact Heap.get?_push_of_some _ e
/-- sorted(d) -/
def tSortedTE3 (te : TE3) : TN3 := fun env S Q => te env S fun x S1 => match dic3 S1 x with
  | some (_, kvs) => (PySem.W.AllAlike (kvs.map fun p => keyPd p.1) ∧ AllTup (kvs.map fun p => keyPd p.1) ∧ ∀ d ∈ kvs.map (fun p => keyPd p.1), d.depth ≤ 60) ∧ Q (sortD (kvs.map fun p => keyPd p.1)) S1
  | none => False
theorem qn_sortedTE {e : Expr} {te : TE3} {p pos : Pos} (hcalm : X.calm = true) (hu : X.A.units + 64 < cLine) (hg : Gl X "sorted") (hm : X.mg "sorted" = none) (ha : QE X e te) (hs : starEach [e] X.env = (false, eval e X.env) :: starEach [] X.env := by rfl) (hpl : (backTo pos (starEach [] X.env)).any (·.1) = false := by rfl) :
    QN X (.Call (.Name "sorted" p) [e] [] pos) (tSortedTE3 te) := L2.PE.imp (pe_callB (cr_sortedTE hcalm hu) hg hm (by decide +kernel) (pa_cons ha pa_nil hs) (by decide) (by decide) hs hpl) fun σ H R ⟨w, env, S, Q, r0, en, t, q⟩ => by
  refine ⟨w, env, S, _, r0, en, t, fun w1 v d H1 S1 e1 r1 p1 t1 => ?_⟩
  split at t1
  · rename_i n kvs h1
    obtain ⟨a, kxs, rfl, rfl, ha, hs', hH, hp⟩ := dic3_low r1 p1 h1
    obtain ⟨⟨c1, c2, c3⟩, t1⟩ := t1
    have ek := pt_keys hp
    refine ⟨a, kxs, rfl, .inl hH, by rw [ek]; exact c1, by rw [ek]; exact c2, by rw [ek]; exact c3, fun p bs hn hb hz => ?_⟩
    obtain ⟨h', e2, r2, dd⟩ := Rel3.tups r1 hb
    rw [ek] at dd ⊢
    have hlen := DpAll.length dd
    have hsnd : (((bs.map V.ref).zip (kvs.map fun p => keyPd p.1)).mergeSort (PySem.W.dataLe false Prod.snd)).map (·.2) = sortD (kvs.map fun p => keyPd p.1) := by
      have e := List.map_mergeSort (f := fun x : V × PyData => x.2) (r := PySem.W.dataLe false Prod.snd) (s := PySem.W.dataLe false id) (l := (bs.map V.ref).zip (kvs.map fun p => keyPd p.1)) (fun _ _ _ _ => rfl)
      unfold sortD
      rw [e, zip_snd hlen]
    refine q ⟨w1.al, h', w1.pn⟩ p _ (sortD (kvs.map fun p => keyPd p.1)) H1 S1 (e1.trans e2) r2 hn ?_ ?_ t1
    · rw [← hsnd]
      exact dp_unzip fun p hp => zip_dp dd p (List.mem_mergeSort.mp hp)
    · unfold sortD
      rw [List.length_mergeSort, ← ek, List.length_map]
      exact hz
  · exact t1.elim
open PySem.W in
def rSortedDE (K : PySem.W.Frag) : List V → Hp → VK → Prop := fun vs H Q => ∃ (a : Addr) (xs : List V) (ds : List PyData), vs = [V.ref a] ∧ SqL K H a xs ∧ DpAll K H xs ds ∧ AllAlike ds ∧ AllTup ds ∧ (∀ d ∈ ds, d.depth ≤ 60) ∧
  ∀ p, H p = none → Q (.ref p) (upd H p (.lst (((xs.zip ds).mergeSort (dataLe false Prod.snd)).map (·.1))))
open PySem.W in
theorem cr_sortedDE {X : Cx} (hu : X.A.units + 64 < cLine) : CallR X (.builtin "sorted") (rSortedDE X.K) := by
  intro pins s σ H vs us Q I r h
  obtain ⟨a, xs, ds, rfl, hs, hd, hal, hk, hdep, q⟩ := h
  obtain ⟨its, rv, hl, hz⟩ := I.list hs
  rw [Vals.ref1 r]
  obtain ⟨e1, e2⟩ := each_zip I rv hd
  have hlen := DpAll.length hd
  have hsnd := zip_snd hlen
  have hm : (xs.zip ds).map Prod.snd = ds := hsnd
  have hbl : (xs.zip ds).length = xs.length := by rw [List.length_zip]; omega
  refine sorted_tups (bs := xs.zip ds) (enc := Prod.snd) (R := fun v (b : V × PyData) => RelV b.1 v) hl.isList e1 e2 (by rw [hm]; exact hal) (by rw [hm]; exact hk) (by rw [hbl]; exact hz) (fun b hb => ?_) fun out ho hR => ?_
  · have : b.2 ∈ ds := by
      rw [← hm]
      exact List.mem_map.mpr ⟨b, hb, rfl⟩
    have := hdep _ this
    omega
  · obtain ⟨ep, he'⟩ := PyProof.Rows.sortedAll_at s.heap its out.toArray
    have hl2 : (((xs.zip ds).mergeSort (dataLe false Prod.snd)).map (·.1)).length ≤ sizeLine := by
      rw [List.length_map, List.length_mergeSort, hbl]
      exact hz
    exact ⟨.ref _, upd H (s.heap.objs.size + 1) (.lst (((xs.zip ds).mergeSort (dataLe false Prod.snd)).map (·.1))), I.laid (t' := s.toks) (fun _ _ => PyProof.Rows.sortedAll_old) (Nat.le_succ _) ⟨hl2, out, ep, vals_each hR, he'⟩, rfl, q _ (I.hok.fresh (Nat.le_succ _))⟩
def tSortedDE3 (te : TE3) : TN3 := fun env S Q => te env S fun x S1 => match lst3 S1 x with
  | some ds => (PySem.W.AllAlike ds ∧ AllTup ds ∧ ∀ d ∈ ds, d.depth ≤ 60) ∧ Q (sortD ds) S1
  | none => False
theorem qn_sortedDE {X : Cx} {e : Expr} {te : TE3} {p pos : Pos} (hu : X.A.units + 64 < cLine) (hg : Gl X "sorted") (hm : X.mg "sorted" = none) (ha : QE X e te) (hs : starEach [e] X.env = (false, eval e X.env) :: starEach [] X.env := by rfl) (hpl : (backTo pos (starEach [] X.env)).any (·.1) = false := by rfl) :
    QN X (.Call (.Name "sorted" p) [e] [] pos) (tSortedDE3 te) := L2.PE.imp (pe_callB (cr_sortedDE hu) hg hm (by decide +kernel) (pa_cons ha pa_nil hs) (by decide) (by decide) hs hpl) fun σ H R ⟨w, env, S, Q, r0, en, t, q⟩ => by
  refine ⟨w, env, S, _, r0, en, t, fun w1 v d H1 S1 e1 r1 p1 t1 => ?_⟩
  split at t1
  · rename_i ds h1
    obtain ⟨a, xs, rfl, hq, hd, hz⟩ := lst3_low r1 p1 h1
    have hlen := DpAll.length hd
    obtain ⟨⟨c1, c2, c3⟩, t1⟩ := t1
    refine ⟨a, xs, ds, rfl, hq, dpAll_mono r1.sub _ _ hd, c1, c2, c3, fun p hn => ?_⟩
    have hsnd : ((xs.zip ds).mergeSort (PySem.W.dataLe false Prod.snd)).map (·.2) = sortD ds := by
      have e := List.map_mergeSort (f := fun x : V × PyData => x.2) (r := PySem.W.dataLe false Prod.snd) (s := PySem.W.dataLe false id) (l := xs.zip ds) (fun _ _ _ _ => rfl)
      unfold sortD
      rw [e, zip_snd hlen]
    refine q w1 p _ (sortD ds) H1 S1 e1 r1 hn ?_ ?_ t1
    · rw [← hsnd]
      exact dp_unzip fun p hp => zip_dp hd p (List.mem_mergeSort.mp hp)
    · unfold sortD
      rw [List.length_mergeSort]
      exact hz
  · exact t1.elim
end
/-- len of an own dict whose keys are tuples -/
def rLenT3 : C3 := fun ds S Q => match ds with
  | [d] => (match dic3 S d with
    | some (_, kvs) => Q (.p (.int kvs.length)) S
    | none => False)
  | _ => False
theorem cq_lenT {X : Cx} : CQ X (.builtin "len") rLenT3 := CallR.imp call_len_dT fun xs H R ⟨w, S, ds, Q, r0, p1, t, q⟩ => by
  unfold rLenT3 at t
  split at t
  · rename_i d
    split at t
    · rename_i n kvs ho'
      obtain ⟨v, rfl, p⟩ := rds1 p1
      obtain ⟨a, kxs, rfl, rfl, ha, hs', hH, hp⟩ := dic3_low r0 p ho'
      refine ⟨a, kxs, rfl, hH, ?_⟩
      rw [Paired.length hp]
      exact q.int r0 t
    · exact t.elim
  · exact t.elim
end L3

set_option maxHeartbeats 2000000
/-! NY: xs.extend(t), t a tuple. -/
namespace L3
open PySem PySem.Spec PyProof.Rows L2
theorem meets_extT (l b : Addr) (its it2 : Array Value) (n : Nat) (hsz : its.size + it2.size ≤ sizeLine) :
    Meets (Builtin.«list.extend» ⟨[.ref l, .ref b], []⟩) (fun _ R s => s.heap.get? l = some { cls := .type "list", dict := none, data := .seq its n, slots := #[] } ∧ (∃ o m, s.heap.get? b = some o ∧ o.cls = .type "tuple" ∧ o.data = .seq it2 m) ∧ R (.ok (.ret Value.none)) { s with heap := s.heap.update l (Obj.mapSeq (· ++ it2)) }) :=
  .of_wp fun prog w A R s h => by
    obtain ⟨hl, ⟨o, m, ho, hc, hd⟩, h⟩ := h
    unfold Builtin.«list.extend»
    refine wpAny_bind ?_
    refine wpAny_pure ?_
    show wpAny _ _ (Builtin.List.listExtendWith (.ref l) (.ref b) .none) _ _ s
    unfold Builtin.List.listExtendWith
    refine wpAny_bind (wpAny_typeOf (T := "tuple") ⟨o, ho, hc⟩ ?_)
    have e1 : (Builtin.List.listSameRef (.ref l) (.ref b) || Value.type "tuple" == Value.type "list" || Value.type "tuple" == Value.type "tuple") = true := by simp
    simp only [e1, if_true]
    refine wpAny_bind ?_
    unfold Builtin.List.listItems
    refine wpAny_bind (wpAny_seqItems ho hd (wpAny_pure ?_))
    refine wpAny_bind ?_
    refine wpAny_bind (wpAny_seqItems hl rfl (wpAny_pure ?_))
    have e2 : ¬ (!its.isEmpty && Builtin.List.listTooLong (its.size + it2.size)) = true := by
      rw [notLongL hsz, Bool.and_false]
      exact Bool.false_ne_true
    rw [if_neg e2]
    show wpAny _ _ (updateSeq l (· ++ it2) >>= fun _ => ret .none) _ _ s
    refine wpAny_bind (wpAny_updateSeq hl rfl (hz := by omega) (_hz' := by rw [Array.size_append]; omega) ?_)
    exact wpAny_pure ⟨_, rfl, h⟩
section
variable {X : Cx}
def rExtT (K : PySem.W.Frag) : V → List V → Hp → VK → Prop := fun x vs H Q => ∃ l b xs zs, x = .ref l ∧ vs = [.ref b] ∧ H l = some (.lst xs) ∧ SqT K H b zs ∧ xs.length + zs.length ≤ sizeLine ∧ Q .non (upd H l (.lst (xs ++ zs)))
theorem mt_extT : MtM X "list.extend" (rExtT X.K) := by
  intro pins s σ H x vs v us Q I rx rv h
  obtain ⟨l, b, xs, zs, rfl, rfl, hH, hB, hz, q⟩ := h
  cases rx
  obtain ⟨u, rfl, ru⟩ := rv.one
  cases ru
  obtain ⟨z, its, n, r, hl, e⟩ := I.lstM hH
  obtain ⟨it2, r2, p2, z2⟩ := I.tuple hB
  obtain ⟨o2, e2, c2, m2, d2⟩ := p2
  have hr2 := r2.length
  have hsz : its.toArray.size + it2.toArray.size ≤ sizeLine := by rw [List.size_toArray, List.size_toArray]; omega
  refine call_meets F.slot_list_extend ⟨_, e, rfl⟩ F.entry_list_extend (F.args_list_extend_2 _ _) (meets_extT l b its.toArray it2.toArray n hsz) ⟨e, ⟨o2, m2, e2, c2, d2⟩, ?_⟩
  have len : (xs ++ zs).length ≤ sizeLine := by
    rw [List.length_append]
    exact hz
  exact ⟨.non, _, I.lset (its' := its ++ it2) hH e (by simp) (r.append r2) len, rfl, q⟩
end
/-- xs.extend(t) -/
def tExtT3 (to te : TE3) : TE3 := fun env S Q => to env S fun o S1 => match own3 S1 o with
  | some _ => te env S1 fun x S2 => (match x, own3 S2 o with
    | .p (.tuple es), some (n, ds) => ds.length + es.length ≤ 16777216 ∧ Q (.p .none) (S2.set n (some (.lst (ds ++ es))))
    | _, _ => False)
  | none => False
section
variable {X : Cx} {o e : Expr} {to te : TE3} {apos cpos pos : Pos}
theorem qe_extT (ho : QE X o to) (he : QE X e te) (hbase : attributeBase o "extend" X.env (eval o X.env) = eval o X.env := by rfl)
    (hfew : ((backTo cpos (starEach [e] X.env)).all (fun x => !x.1) && (backToKw cpos (keywordEach [] X.env)).all (fun x => x.1.isSome)
      && decide (([e] : List Expr).length + ([] : List Keyword).length + (if ([] : List Keyword).isEmpty then 0 else 1) < 30)) = true := by rfl)
    (hline : (apos.endLine == cpos.line) = true := by rfl) (hs : starEach [e] X.env = (false, eval e X.env) :: starEach [] X.env := by rfl) (hplain : (backTo cpos (starEach [] X.env)).any (·.1) = false := by rfl) :
    QE X (.Call (.Attribute o "extend" apos) [e] [] cpos) (tExtT3 to te) :=
  (pe_bm PySem.F.plainAttrs_list PySem.F.slot_list_extend PySem.F.type_list_extend mt_extT ho (pa_cons he pa_nil hs) hbase hfew hline hs hplain).imp fun σ H R ⟨w, env, S, Q, r0, en, t, q⟩ => by
    have hz : sizeLine = 16777216 := sizeLine_eq
    refine ⟨w, env, S, _, r0, en, t, fun w1 v d H1 S1 e1 r1 p1 t1 => ?_⟩
    split at t1
    · rename_i nd ho1
      obtain ⟨n0, ds0⟩ := nd
      obtain ⟨a0, xs0, rfl, hd0, _, _, hu0, _, _⟩ := own3_low r1 p1 ho1
      refine ⟨.inl ⟨rfl, xs0, .inl (.inl hu0)⟩, ?_⟩
      refine ⟨w1, env, S1, _, r1, en.mono e1, t1, fun w2 u c H2 S2 e2 r2 p2 t2 => ?_⟩
      split at t2
      · rename_i es n ds ho2
        obtain ⟨a, xs, hva, rfl, ha, hs, hu, hd, hzz⟩ := own3_low r2 (p1.mono e2) ho2
        cases hva
        cases (show L3.Dp X.K w2.h u (.tuple es) from p2) with
        | @tup b zs _ hqb pb =>
          have hl := DpAll.length hd
          have hl2 := DpAll.length pb
          refine ⟨_, b, xs, zs, rfl, rfl, hu, Same.sqT r2.sub hqb, by omega, ?_⟩
          exact q _ .non (.p .none) _ _ (e1.trans e2) (r2.put (o' := .lst (ds ++ es)) ha hs ⟨_, rfl, DpAll.append hd pb, by rw [List.length_append]; omega⟩) rep_non t2.2
      · exact t2.elim
    · exact t1.elim
end
end L3

/-! OF: sets of any number of tuples of ints below 1228: the round of slots for the greater tables. -/
namespace BigS
open PySem PySem.Spec PyProof.Rows L2
/-- the tables that come with up to 1228 elements -/
def Mk (m : Nat) : Prop := m = 7 ∨ m = 31 ∨ m = 127 ∨ m = 511 ∨ m = 2047
/-- f steps from x, each slot marked once, back to 0 at the end -/
def goes (m : Nat) : Nat → Nat → Nat → Bool
  | 0, x, mk => x == 0
  | f + 1, x, mk => !(mk.testBit x) && decide (x ≤ m) && goes m f ((x * 5 + 1) % (m + 1)) (mk ||| (2 ^ x))
def goesB (m : Nat) : Bool := goes m (m + 1) 0 0
theorem goes_7 : goesB 7 = true := by decide +kernel
theorem goes_31 : goesB 31 = true := by decide +kernel
theorem goes_127 : goesB 127 = true := by decide +kernel
theorem goes_511 : goesB 511 = true := by decide +kernel
theorem goes_2047 : goesB 2047 = true := by decide +kernel
theorem Mk.goes {m : Nat} (h : Mk m) : goesB m = true := by
  rcases h with rfl | rfl | rfl | rfl | rfl
  · exact goes_7
  · exact goes_31
  · exact goes_127
  · exact goes_511
  · exact goes_2047
theorem Mk.top {m : Nat} (h : Mk m) : m ≤ 2047 ∧ m % 2 = 1 ∧ 7 ≤ m := by
  rcases h with rfl | rfl | rfl | rfl | rfl <;> decide
theorem goes_spec {m : Nat} : ∀ (f x mk : Nat), goes m f x mk = true →
    lcgI m x f = 0 ∧ (∀ k, k < f → mk.testBit (lcgI m x k) = false ∧ lcgI m x k ≤ m) ∧ ∀ a b, a < b → b < f → lcgI m x a ≠ lcgI m x b
  | 0, x, mk, h => by
    refine ⟨?_, fun k hk => absurd hk (Nat.not_lt_zero _), fun a b _ hb => absurd hb (Nat.not_lt_zero _)⟩
    unfold goes at h
    exact beq_iff_eq.mp h
  | f + 1, x, mk, h => by
    unfold goes at h
    rw [Bool.and_eq_true, Bool.and_eq_true, Bool.not_eq_true', decide_eq_true_eq] at h
    obtain ⟨⟨h1, h2⟩, h3⟩ := h
    obtain ⟨i1, i2, i3⟩ := goes_spec f _ _ h3
    have sh : ∀ k, lcgI m ((x * 5 + 1) % (m + 1)) k = lcgI m x (k + 1) := fun k => by
      induction k with
      | zero => rfl
      | succ k ih =>
        show (lcgI m ((x * 5 + 1) % (m + 1)) k * 5 + 1) % (m + 1) = (lcgI m x (k + 1) * 5 + 1) % (m + 1)
        rw [ih]
    have bit : ∀ y, (mk ||| 2 ^ x).testBit y = (mk.testBit y || decide (x = y)) := fun y => by
      rw [Nat.testBit_or, Nat.testBit_two_pow]
    have nx : ∀ k, k < f → mk.testBit (lcgI m x (k + 1)) = false ∧ x ≠ lcgI m x (k + 1) ∧ lcgI m x (k + 1) ≤ m := fun k hk => by
      have q := i2 k hk
      rw [sh, bit, Bool.or_eq_false_iff, decide_eq_false_iff_not] at q
      exact ⟨q.1.1, q.1.2, q.2⟩
    refine ⟨by rw [← sh]; exact i1, fun k hk => ?_, fun a b hab hb => ?_⟩
    · cases k with
      | zero => exact ⟨h1, h2⟩
      | succ k => have q := nx k (by omega); exact ⟨q.1, q.2.2⟩
    · obtain ⟨b, rfl⟩ : ∃ c, b = c + 1 := ⟨b - 1, by omega⟩
      cases a with
      | zero => exact (nx b (by omega)).2.1
      | succ a =>
        have q := i3 a b (by omega) (by omega)
        rw [sh, sh] at q
        exact q
theorem lcgI_zero (m : Nat) : ∀ k, lcgI m 0 k = lcgN m k
  | 0 => rfl
  | k + 1 => by
    show (lcgI m 0 k * 5 + 1) % (m + 1) = (lcgN m k * 5 + 1) % (m + 1)
    rw [lcgI_zero m k]
/-- each slot stands in the round from nought -/
theorem hit0 {m : Nat} (hm : Mk m) {j : Nat} (hj : j ≤ m) : ∃ b, b ≤ m ∧ lcgN m b = j := by
  obtain ⟨_, g2, g3⟩ := goes_spec (m + 1) 0 0 hm.goes
  refine Classical.byContradiction fun no => ?_
  have nd : (j :: (List.range (m + 1)).map fun b => lcgN m b).Nodup := by
    refine List.nodup_cons.mpr ⟨fun z => ?_, ?_⟩
    · obtain ⟨b, hb, e⟩ := List.mem_map.mp z
      exact no ⟨b, Nat.le_of_lt_succ (List.mem_range.mp hb), e⟩
    · unfold List.Nodup
      rw [List.pairwise_map]
      refine List.pairwise_lt_range.imp_of_mem fun {a b} ha hb hab => ?_
      have q := g3 a b hab (List.mem_range.mp hb)
      rw [lcgI_zero, lcgI_zero] at q
      exact q
  have hs := nat_nodup_len _ (List.range (m + 1)) nd fun x hx => by
    rcases List.mem_cons.mp hx with rfl | hx
    · exact List.mem_range.mpr (by omega)
    · obtain ⟨b, hb, rfl⟩ := List.mem_map.mp hx
      have q := (g2 b (List.mem_range.mp hb)).2
      rw [lcgI_zero] at q
      exact List.mem_range.mpr (by omega)
  rw [List.length_cons, List.length_map, List.length_range] at hs
  omega
theorem turn0 {m : Nat} (hm : Mk m) : lcgN m (m + 1) = 0 := by
  rw [← lcgI_zero]
  exact (goes_spec (m + 1) 0 0 hm.goes).1
theorem turnK {m : Nat} (hm : Mk m) : ∀ k, lcgN m (m + 1 + k) = lcgN m k
  | 0 => turn0 hm
  | k + 1 => congrArg (fun y => (y * 5 + 1) % (m + 1)) (turnK hm k)
/-- .. and in the round from any slot -/
theorem hitI {m : Nat} (hm : Mk m) {i j : Nat} (hi : i ≤ m) (hj : j ≤ m) : ∃ k, k ≤ m ∧ lcgI m i k = j := by
  obtain ⟨a, a1, rfl⟩ := hit0 hm hi
  obtain ⟨b, b1, rfl⟩ := hit0 hm hj
  by_cases c : a ≤ b
  · exact ⟨b - a, by omega, by rw [lcgN_add]; congr 1; omega⟩
  · refine ⟨b + (m + 1) - a, by omega, ?_⟩
    rw [lcgN_add, show a + (b + (m + 1) - a) = m + 1 + b by omega, turnK hm]
/-- each slot begins a run early -/
theorem runs {m : Nat} (hm : Mk m) (h : Int) {j : Nat} (hj : j ≤ m) : ∃ n, n ≤ m + 12 ∧ runI m (SetTable.bits h) n = j := by
  obtain ⟨k, hk, e⟩ := hitI hm (runI_le m (SetTable.bits h) 12) hj
  refine ⟨12 + k, by omega, ?_⟩
  rw [runI_tail (bits_lt h), e]
theorem meets {m : Nat} (hm : Mk m) (h : Int) {j : Nat} (hj : j ≤ m) : ∃ k, k < 10 * SetTable.turns m ∧ way m h k = j := by
  obtain ⟨n, hn, e⟩ := runs hm h hj
  obtain ⟨k, hk, e2⟩ := run_nth m (SetTable.bits h) n
  exact ⟨k, by unfold SetTable.turns; omega, (congrArg SetTable.Probe.j e2).trans e⟩
theorem way_in (m : Nat) (h : Int) (k : Nat) : way m h k ≤ m := by
  have hi : SetTable.bits h % (m + 1) ≤ m := Nat.le_of_lt_succ (Nat.mod_lt _ (Nat.succ_pos m))
  have b := runEnd_bd hi
  have q := nth_in k (runAt m (SetTable.bits h % (m + 1)) (SetTable.bits h)) (m := m) (by unfold runAt; dsimp only; omega)
  exact Nat.le_trans (Nat.le_add_right _ _) q
end BigS

namespace BigS
open PySem PySem.Spec PyProof.Rows L2
/-- a table without dummies in which every hash leads to its slot -/
structure Tb (t : SetTable) (hs : List Int) : Prop where
  up : Ris t.place.toList
  nodum : t.dummies = #[]
  many : t.place.size = hs.length
  msk : Mk t.mask
  within : ∀ x ∈ t.place.toList, x ≤ t.mask
  leads : ∀ (i : Nat) (h : Int) (j : Nat), hs[i]? = some h → t.place.toList[i]? = some j → ∃ k, way t.mask h k = j ∧ ∀ k', k' < k → way t.mask h k' ∈ t.place.toList
variable {t : SetTable} {hs : List Int}
theorem Tb.len (T : Tb t hs) : t.place.toList.length = hs.length := by rw [Array.length_toList, T.many]
/-- the way of a hash comes to a slot that is free -/
theorem Tb.open_ (T : Tb t hs) (hl : hs.length ≤ t.mask) (h : Int) : ∃ K, K < 10 * SetTable.turns t.mask ∧ way t.mask h K ∉ t.place.toList ∧ ∀ k, k < K → way t.mask h k ∈ t.place.toList := by
  obtain ⟨j, j1, j2⟩ := st_missing t.place.toList (t.mask + 1) (by rw [T.len]; omega)
  obtain ⟨k, k1, rfl⟩ := meets T.msk h (Nat.le_of_lt_succ j1)
  obtain ⟨K, K1, K2, K3⟩ := st_least (p := fun k => way t.mask h k ∉ t.place.toList) k j2
  exact ⟨K, Nat.lt_of_le_of_lt K1 k1, K2, fun q hq => Classical.byContradiction fun z => K3 q hq z⟩
theorem Tb.ahead (T : Tb t hs) {h : Int} {K i j : Nat} (hK : way t.mask h K ∉ t.place.toList) (hi : hs[i]? = some h) (hj : t.place.toList[i]? = some j) : ∃ k, k < K ∧ way t.mask h k = j := by
  obtain ⟨k, rfl, hb⟩ := T.leads i h j hi hj
  refine ⟨k, ?_, rfl⟩
  rcases Nat.lt_trichotomy k K with c | rfl | c
  · exact c
  · exact absurd (List.mem_of_getElem? hj) hK
  · exact absurd (hb K c) hK
theorem Tb.slots (T : Tb t hs) {i : Nat} (hi : i < hs.length) : ∃ j, t.place.toList[i]? = some j :=
  ⟨_, List.getElem?_eq_getElem (by rw [T.len]; exact hi)⟩
/-- a slot more -/
theorem Tb.more (T : Tb t hs) {h : Int} {K : Nat} (hK : way t.mask h K ∉ t.place.toList) (hb : ∀ k, k < K → way t.mask h k ∈ t.place.toList) :
    ∃ p, (t.put (way t.mask h K)).2 = p ∧ p = SetTable.below t.place (way t.mask h K) ∧ p ≤ hs.length ∧ Tb (t.put (way t.mask h K)).1 (hs.take p ++ h :: hs.drop p) ∧ (t.put (way t.mask h K)).1.mask = t.mask ∧ (t.put (way t.mask h K)).1.led = t.led ∧
      (t.put (way t.mask h K)).1.plain = t.plain ∧ (t.put (way t.mask h K)).1.fill = hs.length + 1 := by
  have hm := way_in t.mask h K
  obtain ⟨c1, _, _⟩ := below_cut T.up (way t.mask h K)
  have hpl := put_place t (way t.mask h K)
  have hfree : t.place[SetTable.below t.place (way t.mask h K)]? ≠ some (way t.mask h K) := fun e => hK (List.mem_of_getElem? (by rw [Array.getElem?_toList]; exact e))
  have hris := ris_insert T.up hfree
  have hdum := put_dm T.nodum (way t.mask h K)
  have c2 : SetTable.below t.place (way t.mask h K) ≤ t.place.toList.length := by rw [Array.length_toList]; exact c1
  have c3 : SetTable.below t.place (way t.mask h K) ≤ hs.length := by rw [← T.len]; exact c2
  have hsz : (t.put (way t.mask h K)).1.place.size = hs.length + 1 := by rw [← Array.length_toList, hpl, len_ins _ c2, T.len]
  have stay : ∀ {x : Nat}, x ∈ t.place.toList → x ∈ (t.put (way t.mask h K)).1.place.toList := fun hx => by rw [hpl]; exact mem_ins.2 (Or.inr hx)
  refine ⟨SetTable.below t.place (way t.mask h K), rfl, rfl, c3, ?_, rfl, rfl, rfl, ?_⟩
  · refine { up := hris, nodum := hdum, many := by rw [len_ins _ c3]; exact hsz, msk := T.msk, within := fun x hx => ?_, leads := fun i g j h1 h2 => ?_ }
    · rw [hpl] at hx
      exact (mem_ins.1 hx).elim (fun e => by rw [e]; exact hm) fun e => T.within x e
    · rw [tins_get hs c3] at h1
      rw [hpl, tins_get _ c2] at h2
      have old : ∀ i', hs[i']? = some g → t.place.toList[i']? = some j → ∃ k, way t.mask g k = j ∧ ∀ k', k' < k → way t.mask g k' ∈ (t.put (way t.mask h K)).1.place.toList := fun i' a b => by
        obtain ⟨k, e, z⟩ := T.leads i' g j a b
        exact ⟨k, e, fun k' hk' => stay (z k' hk')⟩
      rcases Nat.lt_trichotomy i (SetTable.below t.place (way t.mask h K)) with d | d | d
      · rw [if_pos d] at h1 h2
        exact old i h1 h2
      · rw [if_neg (by omega), if_pos d] at h1 h2
        cases h1
        cases h2
        exact ⟨K, rfl, fun k' hk' => stay (hb k' hk')⟩
      · rw [if_neg (by omega), if_neg (by omega)] at h1 h2
        exact old _ h1 h2
  · show (t.put (way t.mask h K)).1.place.size + (t.put (way t.mask h K)).1.dummies.size = _
    rw [hsz, hdum]
    rfl
/-! ### all laid anew -/
/-- the first free slot on a hash's way is the one that is found -/
theorem found {m : Nat} (hm : Mk m) (owner : Array (Option Nat)) (h : Int) {j : Nat} (hj : j ≤ m) (hf : oAt owner j = none) :
    ∃ K, SetTable.layClean.free m owner (SetTable.turns m) (SetTable.bits h % (m + 1)) (SetTable.bits h) = some (way m h K) ∧ oAt owner (way m h K) = none ∧ ∀ k, k < K → oAt owner (way m h k) ≠ none := by
  obtain ⟨n, hn, e⟩ := runs hm h hj
  have hw : way m h (off m (SetTable.bits h % (m + 1)) (SetTable.bits h) n) = j := by
    have q := congrArg SetTable.Probe.j (nth_off m n (SetTable.bits h % (m + 1)) (SetTable.bits h))
    rw [itL_run] at q
    exact q.trans e
  obtain ⟨K, K1, K2, K3⟩ := st_least (p := fun k => oAt owner (way m h k) = none) _ (show oAt owner (way m h _) = none by rw [hw]; exact hf)
  have occ : ∀ x : Option Nat, x ≠ none → x.isNone = false := fun x hx => by cases x with
    | none => exact absurd rfl hx
    | some _ => rfl
  refine ⟨K, free_spec m owner _ n _ _ K (by unfold SetTable.turns; omega) K1 (fun k hk => occ _ (K3 k hk)) ?_, K2, K3⟩
  have q : oAt owner (way m h K) = none := K2
  show (oAt owner (way m h K)).isNone = true
  rw [q]
  rfl
theorem own_next {m : Nat} (hm : Mk m) {done : List Int} {owner : Array (Option Nat)} (W : Own m done owner) (hl : done.length ≤ m) (h : Int) :
    ∃ j, SetTable.layClean.free m owner (SetTable.turns m) (SetTable.bits h % (m + 1)) (SetTable.bits h) = some j ∧ Own m (done ++ [h]) (owner.setIfInBounds j (some done.length)) := by
  obtain ⟨ps, ps1, ps2⟩ := W.ps
  obtain ⟨j0, j1, j2⟩ := st_missing ps (m + 1) (by omega)
  have hj0 : oAt owner j0 = none := Classical.byContradiction fun z => j2 (ps2 j0 (by omega) z)
  obtain ⟨K, e1, e2, e3⟩ := found hm owner h (by omega : j0 ≤ m) hj0
  have hw := way_in m h K
  have here := oAt_set_self (owner := owner) (some done.length) (j := way m h K) (by rw [W.sz]; omega)
  have there : ∀ {i : Nat}, i ≠ way m h K → oAt (owner.setIfInBounds (way m h K) (some done.length)) i = oAt owner i := fun hi => oAt_set_ne _ hi
  have full : ∀ {i : Nat}, oAt owner i ≠ none → oAt (owner.setIfInBounds (way m h K) (some done.length)) i ≠ none := fun {i} hi => by
    rcases Classical.em (i = way m h K) with c | c
    · rw [c, here]; exact nofun
    · rw [there c]; exact hi
  refine ⟨way m h K, e1, { sz := by rw [Array.size_setIfInBounds, W.sz], at_ := fun j k hj e => ?_, all := fun k hk => ?_, ps := ⟨way m h K :: ps, by simp [ps1], fun j hj e => ?_⟩ }⟩
  · rcases Classical.em (j = way m h K) with rfl | c
    · rw [here] at e
      cases e
      exact ⟨h, K, by simp, rfl, fun k' hk' => full (e3 k' hk')⟩
    · rw [there c] at e
      obtain ⟨g, K', a1, a2, a3⟩ := W.at_ j k hj e
      exact ⟨g, K', by rw [List.getElem?_append_left (List.getElem?_eq_some_iff.mp a1).1, a1], a2, fun k' hk' => full (a3 k' hk')⟩
  · rw [List.length_append, List.length_singleton] at hk
    rcases Nat.lt_or_ge k done.length with c | c
    · obtain ⟨j, hj, e⟩ := W.all k c
      have hne : j ≠ way m h K := fun z => by rw [z, e2] at e; cases e
      exact ⟨j, hj, (there hne).trans e⟩
    · exact ⟨way m h K, hw, by rw [here]; congr 1; omega⟩
  · rcases Classical.em (j = way m h K) with rfl | c
    · exact List.mem_cons_self
    · rw [there c] at e
      exact List.mem_cons_of_mem _ (ps2 j hj e)
theorem laid_all {m : Nat} (hm : Mk m) : ∀ (rest done : List Int) (owner : Array (Option Nat)), Own m done owner → done.length + rest.length ≤ m →
    ∃ o', rest.foldl (stepF m) (some (owner, done.length)) = some (o', done.length + rest.length) ∧ Own m (done ++ rest) o'
  | [], done, owner, W, _ => ⟨owner, rfl, by rw [List.append_nil]; exact W⟩
  | h :: rest, done, owner, W, hl => by
    rw [List.length_cons] at hl
    obtain ⟨j, e, W2⟩ := own_next hm W (by omega) h
    obtain ⟨o', f, W3⟩ := laid_all hm rest (done ++ [h]) _ W2 (by simp; omega)
    rw [List.length_append, List.length_singleton] at f
    refine ⟨o', ?_, by rw [List.append_assoc] at W3; exact W3⟩
    rw [List.foldl_cons, stepF_some e, f, List.length_cons]
    congr 2
    omega
theorem laid_ok {m : Nat} (hm : Mk m) {hs : Array Int} (hn : hs.size ≤ m) : ∃ owner, SetTable.layClean m hs = some owner ∧ Own m hs.toList owner := by
  obtain ⟨o', f, W⟩ := laid_all hm hs.toList [] _ (Own.init m) (by simpa using hn)
  rw [List.nil_append] at W
  refine ⟨o', ?_, W⟩
  rw [layClean_eq, show hs.toList.foldl (stepF m) (some (Array.replicate (m + 1) none, 0)) = some (o', ([] : List Int).length + hs.toList.length) from f]
  rfl
end BigS

namespace BigS
open PySem PySem.Spec PyProof.Rows L2
theorem anew (t : SetTable) {hs : Array Int} {wanted M : Nat} (hw : SetTable.sizeAbove wanted - 1 = M) (hM : Mk M) (hn : hs.size ≤ M) :
    ∃ t' order, t.relaid hs wanted = some (t', order) ∧ order.toList.Perm (List.range hs.size) ∧ Tb t' (order.toList.map fun i => hs.getD i 0) ∧ t'.mask = M ∧ t'.led = t.led ∧ t'.plain = t.plain := by
  obtain ⟨owner, e, W⟩ := laid_ok hM hn
  obtain ⟨V, hV⟩ : ∃ V, V = liveOf M owner := ⟨_, rfl⟩
  have mem : ∀ {j k}, (j, k) ∈ V ↔ j ≤ M ∧ oAt owner j = some k := by rw [hV]; exact mem_live W.sz
  have hr : t.relaid hs wanted = some (tabOf t M owner, (V.map (·.2)).toArray) := by
    rw [relaid_eq, hw, e, hV]
    rfl
  have rise : Ris (V.map (·.1)) := by
    rw [hV]
    exact (ris_live (fun j => owner.getD j none) (List.range (M + 1)) (by unfold Ris; exact List.pairwise_lt_range)).1
  have all : ∀ k, k < hs.size → k ∈ V.map (·.2) := fun k hk => by
    obtain ⟨j, a, b⟩ := W.all k (by simpa using hk)
    exact List.mem_map.mpr ⟨(j, k), mem.2 ⟨a, b⟩, rfl⟩
  have long : V.length = hs.size := by
    obtain ⟨ps, p1, p2⟩ := W.ps
    have nd : (V.map fun q : Nat × Nat => q.1).Nodup := List.Pairwise.imp (fun h => Nat.ne_of_lt h) rise
    have a := nat_nodup_len (V.map fun q : Nat × Nat => q.1) ps nd fun x hx => by
      obtain ⟨⟨y, k⟩, hq, rfl⟩ := List.mem_map.mp hx
      obtain ⟨b1, b2⟩ := mem.1 hq
      exact p2 y b1 (by rw [b2]; exact nofun)
    have b := nat_nodup_len (List.range hs.size) (V.map (·.2)) List.nodup_range fun k hk => all k (List.mem_range.mp hk)
    rw [List.length_map, p1] at a
    rw [List.length_map, List.length_range] at b
    have c : hs.toList.length = hs.size := Array.length_toList
    exact Nat.le_antisymm (Nat.le_trans a (Nat.le_of_eq c)) b
  have place : (tabOf t M owner).place.toList = V.map (·.1) := by rw [hV]; rfl
  refine ⟨_, _, hr, perm_range hs.size _ (by simpa using long) all, { up := by rw [place]; exact rise, nodum := rfl, many := ?_, msk := hM, within := fun x hx => ?_, leads := fun i h j h1 h2 => ?_ }, rfl, rfl, rfl⟩
  · rw [← Array.length_toList, place]
    simp
  · rw [place] at hx
    obtain ⟨⟨y, k⟩, hq, rfl⟩ := List.mem_map.mp hx
    exact (mem.1 hq).1
  · rw [place] at h2 ⊢
    have h1 : ((V.map (·.2)).map fun i => hs.getD i 0)[i]? = some h := h1
    rw [List.getElem?_map] at h2
    rw [List.map_map, List.getElem?_map] at h1
    obtain ⟨⟨y, k⟩, hq, rfl⟩ := Option.map_eq_some_iff.mp h2
    rw [hq] at h1
    have h1 : hs.getD k 0 = h := Option.some.inj h1
    obtain ⟨b1, b2⟩ := mem.1 (List.mem_of_getElem? hq)
    obtain ⟨g, K, a1, a2, a3⟩ := W.at_ y k b1 b2
    have hg : g = h := by rw [← h1, Array.getD_eq_getD_getElem?, ← Array.getElem?_toList, a1]; rfl
    subst hg
    refine ⟨K, a2, fun k' hk' => ?_⟩
    show way M g k' ∈ V.map (·.1)
    cases z : oAt owner (way M g k') with
    | none => exact absurd z (a3 k' hk')
    | some q => exact List.mem_map.mpr ⟨(way M g k', q), mem.2 ⟨way_in M g k', z⟩, rfl⟩
/-! ### the sets -/
/-- a set of tuples of ints, fewer than 1228 -/
structure Ts (P : Program) (w : World) (h : Heap) (a : Addr) (L : List (Addr × List Int)) (es : Array (Int × Value)) (ep : Nat) (t : SetTable) : Prop where
  at_ : ∃ o, h.get? a = some o ∧ o.ExactSet ∧ o.data = .set es ep t
  ent : es.toList = rowsOf P w L
  tb : Tb t (L.map fun p => thash P w p.2)
  one : (L.map (·.2)).Nodup
  are : ∀ p ∈ L, IsT P w h p.2 p.1
  pl : t.plain = true
  ld : w.params.followText "set-order" = true ∨ t.led = true
  air : L.length * 5 < t.mask * 3
section
variable {P : Program} {w : World} {A : Around} {E : Value → Shared → Prop} {s : Shared}
variable {a : Addr} {L : List (Addr × List Int)} {es : Array (Int × Value)} {ep : Nat} {t : SetTable}
theorem ent_size (h : es.toList = rowsOf P w L) : es.size = L.length := by
  rw [← Array.length_toList, h]
  unfold rowsOf
  rw [List.length_map]
theorem fits_of (h : es.toList = rowsOf P w L) (h1 : t.place.size = L.length) (h2 : t.dummies = #[]) (h3 : L.length ≤ t.mask) : t.fits es.size = true := by
  have hz := ent_size h
  unfold SetTable.fits SetTable.fill
  rw [h2, Bool.and_eq_true, beq_iff_eq, decide_eq_true_eq]
  exact ⟨by omega, by show t.place.size + 0 ≤ t.mask; omega⟩
theorem Ts.fit (R : Ts P w s.heap a L es ep t) : t.fits es.size = true :=
  fits_of R.ent (by rw [R.tb.many, List.length_map]) R.tb.nodum (by have := R.air; omega)
theorem Ts.get (R : Ts P w s.heap a L es ep t) {i : Nat} {p : Addr × List Int} (h : L[i]? = some p) : es[i]? = some (thash P w p.2, Value.ref p.1) := by
  rw [← Array.getElem?_toList, R.ent]
  unfold rowsOf
  rw [List.getElem?_map, h]
  rfl
theorem Ts.whole (R : Ts P w s.heap a L es ep t) : ¬ t.gaveWay = true := by
  unfold SetTable.gaveWay
  rw [R.tb.msk.top.2.1]
  decide
theorem nth_plain (m : Nat) : ∀ (n : Nat) (p : SetTable.Probe), p.dummy = none → (nth m p n).dummy = none
  | 0, _, h => h
  | n + 1, p, h => nth_plain m n (adv m p) (by unfold adv; split <;> exact h)
end
end BigS

namespace BigS
open PySem PySem.Spec PyProof.Rows L2
section
variable {P : Program} {w : World} {A : Around} {E : Value → Shared → Prop} {s : Shared}
variable {a : Addr} {L : List (Addr × List Int)} {es : Array (Int × Value)} {ep : Nat} {t : SetTable}
/-- where the way of a hash stands behind q steps -/
abbrev at_ (m : Nat) (h : Int) (q : Nat) : SetTable.Probe := nth m (runAt m (SetTable.bits h % (m + 1)) (SetTable.bits h)) q
theorem at_on (m : Nat) (h : Int) (c q : Nat) : nth m (at_ m h c) q = at_ m h (c + q) := (nth_add m c _ q).symm
/-- a search from the c-th step on -/
theorem seek (R : Ts P w s.heap a L es ep t) {x : Addr} {k : List Int} (hx : IsT P w s.heap k x) (hu : A.units < cLine) {K : Nat} (K1 : K < 10 * SetTable.turns t.mask) (K2 : way t.mask (thash P w k) K ∉ t.place.toList)
    (K3 : ∀ c, c < K → way t.mask (thash P w k) c ∈ t.place.toList) {Q : SetFound → Shared → Prop} (yes : k ∈ L.map (·.2) → Q (.there none) s) (no : k ∉ L.map (·.2) → Q (.free (way t.mask (thash P w k) K) false) s) :
    ∀ (f c : Nat) (stand : Option SetTable.Probe), stand.getD (t.probeStart (thash P w k)) = at_ t.mask (thash P w k) c → c ≤ K → K < f + c →
      (∀ (i : Nat) p, L[i]? = some p → p.2 = k → ∃ d, c ≤ d ∧ d < K ∧ t.place.toList[i]? = some (way t.mask (thash P w k) d)) → wpAny (model P w) A (setSearchFrom a (.ref x) (thash P w k) true f stand) Q E s
  | 0, c, stand, _, h1, h2, _ => absurd h2 (by omega)
  | f + 1, c, stand, h0, h1, h2, h3 => by
    obtain ⟨o, ho, hex, hd⟩ := R.at_
    have hash : ∀ (i : Nat) p, L[i]? = some p → ((fun i => (es[i]?.map (·.1)).getD 0) : Nat → Int) i = thash P w p.2 := fun i p hp => by
      show (es[i]?.map (·.1)).getD 0 = _
      rw [R.get hp]
      rfl
    have pos : ∀ q, (nth t.mask (at_ t.mask (thash P w k) c) q).j = way t.mask (thash P w k) (c + q) := fun q => congrArg SetTable.Probe.j (at_on t.mask _ c q)
    have G := go_spec t R.tb.up R.tb.nodum (fun i => (es[i]?.map (·.1)).getD 0) (thash P w k) (10 * SetTable.turns t.mask) (K - c) (at_ t.mask (thash P w k) c) (nth_plain t.mask c _ rfl) (by omega)
      (fun q hq => by rw [pos]; exact K3 _ (by omega)) (by rw [pos, show c + (K - c) = K by omega]; exact K2)
    rw [setSearchFrom_succ]
    refine wpAny_bind (wpAny_setState_of ho hd R.fit ?_)
    dsimp only
    refine wp_if_neg R.whole ?_
    try refine wpAny_bind (wpAny_pure ?_)
    rcases G with ⟨q, i, q1, q2, q3, q4, q5⟩ | ⟨q4, q5⟩
    · have hit : t.probe (fun i => (es[i]?.map (·.1)).getD 0) (thash P w k) (stand.getD (t.probeStart (thash P w k))) = some (.candidate (way t.mask (thash P w k) (c + q)) i (at_ t.mask (thash P w k) (c + (q + 1)))) := by
        rw [h0, ← pos, ← at_on]
        exact q5
      rw [pos] at q2
      rw [hit]
      dsimp only
      have il : i < L.length := by
        have z := (List.getElem?_eq_some_iff.mp q2).1
        rw [R.tb.len, List.length_map] at z
        exact z
      obtain ⟨p, hp⟩ : ∃ p, L[i]? = some p := ⟨_, List.getElem?_eq_getElem il⟩
      have pm := List.mem_of_getElem? hp
      have live : t.slot (way t.mask (thash P w k) (c + q)) = .live i := slot_live R.tb.up q2
      have on : wpAny (model P w) A (searchRest a (.ref x) (thash P w k) true f es t (way t.mask (thash P w k) (c + q)) i (at_ t.mask (thash P w k) (c + (q + 1)))) Q E s := by
        unfold searchRest
        rw [R.get hp]
        dsimp only
        refine wpAny_bind (wpAny_holding (wpAny_eqBool_tuple hu (R.are p pm) hx ?_))
        refine wpAny_bind (wpAny_setState_of ho hd R.fit ?_)
        dsimp only
        rcases Classical.em (p.2 = k) with e | e
        · refine wp_if_pos (by simp [e]) ?_
          exact wpAny_pure (yes (List.mem_map.mpr ⟨p, pm, e⟩))
        · refine wp_if_neg (by simp [e]) ?_
          try refine wpAny_bind (wpAny_pure ?_)
          rw [sameMem]
          dsimp only
          simp only [if_true, live, R.get hp]
          refine wpAny_bind (wpAny_isSame_ref_self (wpAny_bind (wpAny_pure ?_)))
          simp only [if_true]
          refine wp_if_neg (by simp [e]) ?_
          refine seek R hx hu K1 K2 K3 yes no f (c + (q + 1)) _ rfl (by omega) (by omega) fun i' p' z1 z2 => ?_
          obtain ⟨d, d1, d2, d3⟩ := h3 i' p' z1 z2
          refine ⟨d, ?_, d2, d3⟩
          refine Classical.byContradiction fun lt => ?_
          rcases Nat.lt_or_ge d (c + q) with y | y
          · refine q4 (d - c) i' (by omega) (by rw [pos, show c + (d - c) = d by omega]; exact d3) ?_
            exact (hash i' p' z1).trans (by rw [z2])
          · have dd : d = c + q := by omega
            subst dd
            have l2 := slot_live R.tb.up d3
            rw [live] at l2
            cases l2
            rw [hp] at z1
            cases z1
            exact e z2
      rcases Classical.em (t.led = true) with l | l
      · refine wp_if_neg (by simp [l]) ?_
        try refine wpAny_bind (wpAny_pure ?_)
        exact on
      · refine wp_if_pos (by simp [l]) ?_
        refine wpAny_bind (seen_tup hx (fun y hy => ?_) ?_)
        · obtain ⟨e, he, rfl⟩ := List.mem_map.mp hy
          have he : e ∈ es.toList := by
            have : e ∈ es ∧ e.1 = thash P w k := by simpa using he
            simpa using this.1
          rw [R.ent] at he
          obtain ⟨p', hp', rfl⟩ := List.mem_map.mp he
          exact ⟨p'.2, p'.1, rfl, R.are p' hp'⟩
        · refine wp_if_neg (by decide) ?_
          try refine wpAny_bind (wpAny_pure ?_)
          exact on
    · have miss : t.probe (fun i => (es[i]?.map (·.1)).getD 0) (thash P w k) (stand.getD (t.probeStart (thash P w k))) = some (.empty (way t.mask (thash P w k) K) none) := by
        have e : way t.mask (thash P w k) K = (nth t.mask (at_ t.mask (thash P w k) c) (K - c)).j := by rw [pos, show c + (K - c) = K by omega]
        rw [h0, e]
        exact q5
      rw [miss]
      dsimp only
      refine wpAny_pure (no fun hm => ?_)
      obtain ⟨p', hp', e⟩ := List.mem_map.mp hm
      obtain ⟨i', hi', e'⟩ := List.getElem_of_mem hp'
      have z1 : L[i']? = some p' := by rw [List.getElem?_eq_getElem hi', e']
      obtain ⟨d, d1, d2, d3⟩ := h3 i' p' z1 e
      refine q4 (d - c) i' (by omega) (by rw [pos, show c + (d - c) = d by omega]; exact d3) ?_
      exact (hash i' p' z1).trans (by rw [e])
theorem seek0 (R : Ts P w s.heap a L es ep t) {x : Addr} {k : List Int} (hx : IsT P w s.heap k x) (hu : A.units < cLine) {Q : SetFound → Shared → Prop} (yes : k ∈ L.map (·.2) → Q (.there none) s)
    (no : ∀ K, k ∉ L.map (·.2) → way t.mask (thash P w k) K ∉ t.place.toList → (∀ c, c < K → way t.mask (thash P w k) c ∈ t.place.toList) → Q (.free (way t.mask (thash P w k) K) false) s) :
    wpAny (model P w) A (setSearch a (.ref x) (thash P w k) true) Q E s := by
  have air := R.air
  have top := R.tb.msk.top
  obtain ⟨K, K1, K2, K3⟩ := R.tb.open_ (by rw [List.length_map]; omega) (thash P w k)
  have few : K < 100000 := Nat.lt_of_lt_of_le K1 (by unfold SetTable.turns; omega)
  unfold setSearch
  refine seek R hx hu K1 K2 K3 yes (fun z => no K z K2 K3) 100000 0 none rfl (Nat.zero_le _) (by omega) fun i p hp e => ?_
  have hh : (L.map fun p => thash P w p.2)[i]? = some (thash P w k) := by rw [List.getElem?_map, hp, ← e]; rfl
  obtain ⟨j, hj⟩ := R.tb.slots (List.getElem?_eq_some_iff.mp hh).1
  obtain ⟨d, d1, rfl⟩ := R.tb.ahead K2 hh hj
  exact ⟨d, Nat.zero_le _, d1, hj⟩
end
end BigS

namespace BigS
open PySem PySem.Spec PyProof.Rows L2
theorem grow_5 : SetTable.sizeAbove (SetTable.grown 5) = 32 := by decide +kernel
theorem grow_19 : SetTable.sizeAbove (SetTable.grown 19) = 128 := by decide +kernel
theorem grow_77 : SetTable.sizeAbove (SetTable.grown 77) = 512 := by decide +kernel
theorem grow_307 : SetTable.sizeAbove (SetTable.grown 307) = 2048 := by decide +kernel
/-- a table that is full by n + 1 elements is laid anew with room -/
theorem grows {m n : Nat} (hm : Mk m) (h1 : n * 5 < m * 3) (h2 : (n + 1) * 5 ≥ m * 3) (h3 : n + 1 < 1228) :
    ∃ M, SetTable.sizeAbove (SetTable.grown (n + 1)) - 1 = M ∧ Mk M ∧ SetTable.sizeAbove (SetTable.grown (n + 1)) ≤ 2048 ∧ (n + 1) * 5 < M * 3 := by
  rcases hm with rfl | rfl | rfl | rfl | rfl
  · have e : n = 4 := by omega
    subst e
    exact ⟨31, by rw [grow_5], .inr (.inl rfl), by rw [grow_5]; decide, by decide⟩
  · have e : n = 18 := by omega
    subst e
    exact ⟨127, by rw [grow_19], .inr (.inr (.inl rfl)), by rw [grow_19]; decide, by decide⟩
  · have e : n = 76 := by omega
    subst e
    exact ⟨511, by rw [grow_77], .inr (.inr (.inr (.inl rfl))), by rw [grow_77]; decide, by decide⟩
  · have e : n = 306 := by omega
    subst e
    exact ⟨2047, by rw [grow_307], .inr (.inr (.inr (.inr rfl))), by rw [grow_307]; decide, by decide⟩
  · omega
section
variable {P : Program} {w : World} {A : Around} {E : Value → Shared → Prop} {s : Shared}
variable {a : Addr} {L : List (Addr × List Int)} {es : Array (Int × Value)} {ep : Nat} {t : SetTable}
theorem relay {o : Obj} (ho : s.heap.get? a = some o) (hex : o.ExactSet) (hd : o.data = .set es ep t) (he : es.toList = rowsOf P w L) (T : Tb t (L.map fun p => thash P w p.2)) (hl : L.length ≤ t.mask) (one : (L.map (·.2)).Nodup)
    (are : ∀ p ∈ L, IsT P w s.heap p.2 p.1) (pl : t.plain = true) (ld : w.params.followText "set-order" = true ∨ t.led = true) {wanted M : Nat} (hw : SetTable.sizeAbove wanted - 1 = M) (hM : Mk M) (hw2 : SetTable.sizeAbove wanted ≤ 2048)
    (air : L.length * 5 < M * 3) {Q : Unit → Shared → Prop} (hQ : ∀ h' L' es' ep' t', Heap.SameBut a s.heap h' → Ts P w h' a L' es' ep' t' → L'.Perm L → Q () { s with heap := h' }) : wpAny (model P w) A (setRelay a wanted) Q E s := by
  have hz := ent_size he
  have top := hM.top
  obtain ⟨t', order, r0, r1, r2, r3, r4, r5⟩ := anew t (hs := es.map (·.1)) hw hM (by rw [Array.size_map, hz]; omega)
  rw [Array.size_map, hz] at r1
  obtain ⟨L2, z1, z2, z3⟩ := order_rows L es order he r1
  rw [← z3] at r2
  have hz2 : (order.filterMap (es[·]?)).size = L.length := (ent_size z1).trans z2.length_eq
  have sb : Heap.SameBut a s.heap (s.heap.update a (Obj.putSet (order.filterMap (es[·]?)) t')) := Heap.SameBut.update ..
  rw [setRelay_eq]
  refine wpAny_bind (wpAny_setState_of ho hd (fits_of he (by rw [T.many, List.length_map]) T.nodum hl) ?_)
  dsimp only
  refine wp_if_neg (by rw [sizeLine_eq]; omega) ?_
  try refine wpAny_bind (wpAny_pure ?_)
  rw [r0]
  dsimp only
  refine wpAny_bind ?_
  refine wp_if_neg (by rw [hz2, hz]; simp) ?_
  try refine wpAny_bind (wpAny_pure ?_)
  refine wpAny_pure ?_
  dsimp only
  refine wpAny_storeSet_of ho hd (hQ _ L2 _ (ep + 1) t' sb { at_ := ⟨_, store_at ho hd, ⟨hex.1, hex.2.1, hex.2.2⟩, rfl⟩, ent := z1, tb := r2, one := (z2.map (·.2)).nodup_iff.mpr one, are := fun p hp => isT_same (are p (z2.mem_iff.mp hp)) ho hd sb, pl := by rw [r5]; exact pl, ld := by rw [r4]; exact ld, air := by rw [z2.length_eq, r3]; exact air } z2) (by rw [hz2, sizeLine_eq]; omega)
/-- one more -/
theorem put_in (R : Ts P w s.heap a L es ep t) {x : Addr} {k : List Int} (hx : IsT P w s.heap k x) (hu : A.units < cLine) (few : L.length + 1 < 1228) {Q : Bool → Shared → Prop}
    (hQ : ∀ b h' L' es' ep' t', Heap.SameBut a s.heap h' → Ts P w h' a L' es' ep' t' → (k ∈ L.map (·.2) → L' = L) → (k ∉ L.map (·.2) → L'.Perm ((x, k) :: L)) → Q b { s with heap := h' }) :
    wpAny (model P w) A (setAddHashed a (.ref x) (thash P w k)) Q E s := by
  obtain ⟨o, ho, hex, hd⟩ := R.at_
  have hz := ent_size R.ent
  have air := R.air
  unfold setAddHashed
  refine wpAny_holding ?_
  rw [show (100000 : Nat) = 99999 + 1 from rfl, setAddHashedIn_succ]
  refine wpAny_bind (wpAny_setState_of ho hd R.fit ?_)
  dsimp only
  refine wp_if_neg (by simp [byScan, Value.scannable]) ?_
  try refine wpAny_bind (wpAny_pure ?_)
  refine wpAny_bind (seek0 R hx hu (fun hm => wpAny_pure (hQ false s.heap L es ep t (Heap.SameBut.refl a s.heap) R (fun _ => rfl) fun z => absurd hm z)) fun K hm hK hb => ?_)
  dsimp only
  refine wpAny_bind (wpAny_setState_of ho hd R.fit ?_)
  dsimp only
  obtain ⟨p, p1, p2, p3, T1, m1, l1, pl1, f1⟩ := R.tb.more hK hb
  have hp1 : (t.put (way t.mask (thash P w k) K)).1.plain = true := by rw [pl1]; exact R.pl
  generalize hpt : t.put (way t.mask (thash P w k) K) = pt at p1 T1 m1 l1 pl1 f1 hp1 ⊢
  obtain ⟨t1, q⟩ := pt
  dsimp only at p1 T1 m1 l1 pl1 f1 hp1 ⊢
  subst p1
  first
    | (refine wpAny_bind ?_; refine wp_if_pos hp1 ?_; refine hashBy_tup hx ?_)
    | refine wp_if_pos hp1 (wpAny_bind (hashBy_tup hx ?_))
  simp only [if_true]
  rw [List.length_map] at p3 f1
  have ent1 : (SetTable.insertAt es q (thash P w k, Value.ref x)).toList = rowsOf P w (L.take q ++ (x, k) :: L.drop q) := by rw [SetTable.toList_insertAt, rows_put, R.ent]
  have pm : (L.take q ++ (x, k) :: L.drop q).Perm ((x, k) :: L) := put_perm L q (x, k)
  have hl1 : (L.take q ++ (x, k) :: L.drop q).length = L.length + 1 := pm.length_eq
  have one1 : ((L.take q ++ (x, k) :: L.drop q).map (·.2)).Nodup := (pm.map (·.2)).nodup_iff.mpr (List.nodup_cons.mpr ⟨hm, R.one⟩)
  have T1 : Tb t1 ((L.take q ++ (x, k) :: L.drop q).map fun p => thash P w p.2) := by
    rw [List.map_append, List.map_cons, List.map_take, List.map_drop]
    exact T1
  generalize SetTable.insertAt es q (thash P w k, Value.ref x) = es1 at ent1 ⊢
  generalize L.take q ++ (x, k) :: L.drop q = L1 at ent1 pm hl1 one1 T1
  have hz1 := ent_size ent1
  have sb : Heap.SameBut a s.heap (s.heap.update a (Obj.putSet es1 t1)) := Heap.SameBut.update ..
  have ho1 := store_at (es' := es1) (t' := t1) ho hd
  refine wpAny_bind (wpAny_storeSet_of ho hd ?_ (by rw [hz1, hl1, sizeLine_eq]; omega))
  generalize s.heap.update a (Obj.putSet es1 t1) = h1 at sb ho1 ⊢
  have are1 : ∀ p ∈ L1, IsT P w h1 p.2 p.1 := fun p hp => by
    rcases List.mem_cons.mp (pm.mem_iff.mp hp) with rfl | hp
    · exact isT_same hx ho hd sb
    · exact isT_same (R.are p hp) ho hd sb
  have ld1 : w.params.followText "set-order" = true ∨ t1.led = true := by rw [l1]; exact R.ld
  have ex1 : Obj.ExactSet { o with data := .set es1 (ep + 1) t1 } := ⟨hex.1, hex.2.1, hex.2.2⟩
  have full : t1.tooFull = true ↔ (L.length + 1) * 5 ≥ t.mask * 3 := by
    unfold SetTable.tooFull
    rw [decide_eq_true_eq, f1, m1]
  rcases Classical.em (t1.tooFull = true) with hf | hf
  · first
      | (refine wpAny_bind ?_; refine wp_if_pos (by simp [hf]) ?_)
      | (refine wp_if_pos (by simp [hf]) ?_; refine wpAny_bind ?_)
    obtain ⟨M, g1, g2, g3, g4⟩ := grows R.tb.msk air (full.mp hf) few
    rw [hz]
    refine relay (s := { s with heap := h1 }) ho1 ex1 rfl ent1 T1 (by rw [hl1, m1]; have := R.tb.msk.top; omega) one1 are1 hp1 ld1 g1 g2 g3 (by rw [hl1]; exact g4) fun h2 L2 es2 ep2 t2 sb2 R2 pm2 => ?_
    exact wpAny_pure (hQ true h2 L2 es2 ep2 t2 (sb.trans sb2) R2 (fun z => absurd z hm) fun _ => pm2.trans pm)
  · first
      | refine wp_if_neg (by simp [hf]) ?_
      | (refine wpAny_bind ?_; refine wp_if_neg (by simp [hf]) ?_; refine wpAny_pure ?_)
    have air1 : L1.length * 5 < t1.mask * 3 := by
      rw [hl1, m1]
      exact Nat.lt_of_not_le fun z => hf (full.mpr z)
    exact wpAny_pure (hQ true h1 L1 es1 (ep + 1) t1 sb { at_ := ⟨_, ho1, ex1, rfl⟩, ent := ent1, tb := T1, one := one1, are := are1, pl := hp1, ld := ld1, air := air1 } (fun z => absurd z hm) fun _ => pm)
end
end BigS

namespace BigS
open PySem PySem.Spec PyProof.Rows L2
section
variable {P : Program} {w : World} {A : Around} {E : Value → Shared → Prop} {s : Shared}
theorem Ts.stay {h h' : Heap} {a : Addr} {L : List (Addr × List Int)} {es : Array (Int × Value)} {ep : Nat} {t : SetTable} (R : Ts P w h a L es ep t) (ha : ∀ o, h.get? a = some o → h'.get? a = some o) (ht : ∀ p ∈ L, IsT P w h' p.2 p.1) : Ts P w h' a L es ep t := by
  obtain ⟨o, ho, r⟩ := R.at_
  exact { R with at_ := ⟨o, ha o ho, r⟩, are := ht }
/-- an empty one -/
theorem Ts.none {h : Heap} {a : Addr} (ho : h.get? a = some { cls := .type "set", dict := none, data := .set #[] 0 (.fresh 0 0 (!w.params.followText "set-order")) }) : Ts P w h a [] #[] 0 (.fresh 0 0 (!w.params.followText "set-order")) :=
  { at_ := ⟨_, ho, ⟨rfl, rfl, rfl⟩, rfl⟩, ent := rfl, one := List.nodup_nil, are := fun p hp => (by cases hp), pl := rfl, air := (by decide : 0 * 5 < 7 * 3),
    ld := by
      cases e : w.params.followText "set-order"
      · exact .inr rfl
      · exact .inl rfl,
    tb := { up := List.Pairwise.nil, nodum := rfl, many := rfl, msk := .inl rfl, within := fun x hx => (by cases hx), leads := fun i h j hi => by simp at hi } }
/-- one element after the other is put in -/
theorem fills {I : Addr} {fp wr : List Addr} {G : Array GenState → Array GenState → Prop} {n : Nat} {Pv : Nat → Value → Prop} {St : Nat → Shared → Prop} {R : Result → Shared → Prop} (W : WalksS P w A.in1 I fp wr G n Pv St) (S : Addr) (off : S ∉ fp)
    (ks : List (Addr × List Int)) (hn : n = ks.length) (few : ks.length < 1228) (vals : ∀ i v, Pv i v → ∃ p, ks[i]? = some p ∧ v = .ref p.1) (h0 : Heap) (tups : ∀ p ∈ ks, IsT P w h0 p.2 p.1) (S0 : h0.get? S = none) (wr0 : ∀ b ∈ wr, h0.get? b = none) (hu : A.in1.units < cLine) :
    ∀ (left i : Nat) (s : Shared), i + left = n → St i s → (∀ b o, h0.get? b = some o → s.heap.get? b = some o) → (∃ L es ep t, Ts P w s.heap S L es ep t ∧ Got ks i L) →
      (∀ s' L es ep t, Moved (S :: wr) G s s' → Ts P w s'.heap S L es ep t → Got ks n L → (∀ b o, h0.get? b = some o → s'.heap.get? b = some o) → R (.ok (.ret .none)) s') →
      codeAny (model P w) A (.builtin "set.update.loop" ⟨[.ref S, .ref I], []⟩) R s := by
  have offw : S ∉ wr := fun z => off (W.sub _ z)
  have wider : ∀ b ∈ wr, b ∈ S :: wr := fun b hb => List.mem_cons_of_mem _ hb
  have old : ∀ {s s' : Shared}, Moved wr G s s' → (∀ b o, h0.get? b = some o → s.heap.get? b = some o) → ∀ b o, h0.get? b = some o → s'.heap.get? b = some o := fun mv kp b o e =>
    mv.heap b o (fun hb => by rw [wr0 b hb] at e; cases e) (kp b o e)
  have tupsL : ∀ {i : Nat} {L : List (Addr × List Int)} {h : Heap}, Got ks i L → (∀ b o, h0.get? b = some o → h.get? b = some o) → ∀ p ∈ L, IsT P w h p.2 p.1 := fun g kp p hp => isT_keep (tups p (List.mem_of_mem_take (g.sub p hp))) kp
  intro left
  induction left with
  | zero =>
    rintro i s hi st kp ⟨L, es, ep, t, T, g⟩ fin
    rw [Nat.add_zero] at hi
    subst hi
    refine codeAny_builtin F.entry_set_update_loop ?_
    rw [Around.under_plainId F.plain_set_update_loop _]
    show wpAny _ A.in1 (pyNext (.ref I) >>= _) _ _ s
    refine wpAny_bind (W.done s _ _ st fun s' mv => ?_)
    have kp2 := old mv kp
    show wpAny _ A.in1 (ret Value.none) _ _ s'
    exact wpAny_pure (fin s' L es ep t (mv.mono wider) (T.stay (fun o e => mv.heap S o offw e) (tupsL g kp2)) g kp2)
  | succ left ih =>
    rintro i s hi st kp ⟨L, es, ep, t, T, g⟩ fin
    refine codeAny_builtin F.entry_set_update_loop ?_
    rw [Around.under_plainId F.plain_set_update_loop _]
    show wpAny _ A.in1 (pyNext (.ref I) >>= _) _ _ s
    refine wpAny_bind (W.item i s _ _ (by omega) st fun v s' pv st' mv => ?_)
    obtain ⟨p, hp, rfl⟩ := vals i v pv
    have kp2 := old mv kp
    have T2 : Ts P w s'.heap S L es ep t := T.stay (fun o e => mv.heap S o offw e) (tupsL g kp2)
    have hx : IsT P w s'.heap p.2 p.1 := isT_keep (tups p (List.mem_of_getElem? hp)) kp2
    show wpAny _ A.in1 (holding [Value.ref p.1] (setAdd S (.ref p.1)) >>= _) _ _ s'
    refine wpAny_bind (wpAny_holding ?_)
    unfold setAdd
    refine wpAny_holding (wpAny_bind (wpAny_pyHash_tuple hu hx ?_))
    refine put_in (s := { s' with toks := s'.toks + (p.2.length + 1) }) T2 hx hu (by have := g.len; omega) fun b h' L' es' ep' t' sb T3 c1 c2 => ?_
    have g2 : Got ks (i + 1) L' := by
      rcases Classical.em (p.2 ∈ L.map (·.2)) with c | c
      · rw [c1 c]; exact g.same hp c
      · exact g.more hp (c2 c)
    have kp3 : ∀ b o, h0.get? b = some o → h'.get? b = some o := fun b o e => (sb.2 b fun z => by rw [z, S0] at e; cases e).trans (kp2 b o e)
    refine wpAny_pure ⟨plainId_quiet F.plain_set_update_loop _, ih (i + 1) _ (by omega) (W.frame _ s' _ _ st' (Nat.le_add_right _ _) fun b hb o e => ?_) kp3 ⟨L', es', ep', t', T3, g2⟩ fun s'' L2 es2 ep2 t2 mv2 T4 g4 kp4 => ?_⟩
    · rw [sb.2 b fun z : b = S => off (by rw [← z]; exact hb)]
      exact e
    · refine fin s'' L2 es2 ep2 t2 (Moved.trans W.gtrans ((mv.mono wider).then_heap (Nat.le_add_right _ _) fun b o hb e => ?_) mv2) T4 g4 kp4
      rw [sb.2 b fun z : b = S => hb (by rw [z]; exact List.mem_cons_self)]
      exact e
end
end BigS

namespace BigS
open PySem PySem.Spec PyProof.Rows L2
local macro_rules | `(tactic| walk_at "go on") => `(tactic| repeat (any_goals (first | assumption | wp_step)))
/-- a new set, as it stands in a heap -/
abbrev bare (w : World) : Obj := { cls := .type "set", dict := none, data := .set #[] 0 (.fresh 0 0 (!w.params.followText "set-order")) }
section
variable {P : Program} {w : World} {A : Around} {E : Value → Shared → Prop} {s : Shared}
set_option maxHeartbeats 8000000 in
/-- set(l), l a list of fewer than 1228 tuples of ints -/
theorem made {l : Addr} {items : Array Value} (ks : List (Addr × List Int)) {Q : Value → Shared → Prop} (hh : A.handled = none) (hl : s.heap.IsList l items) (hit : items.toList = ks.map fun p => Value.ref p.1) (hk : ∀ p ∈ ks, IsT P w s.heap p.2 p.1) (few : ks.length < 1228) (hu : A.units + 3 < cLine)
    (h : ∀ (h' : Heap) (tk : Nat) L es ep t, Ts P w h' s.heap.objs.size L es ep t → Got ks ks.length L → (∀ b o, s.heap.get? b = some o → h'.get? b = some o) → Q (.ref s.heap.objs.size) { s with heap := h', toks := tk }) : wpAny (model P w) A (call (.type "set") [.ref l]) Q E s := by
  obtain ⟨c, tl, hmro⟩ := F.called_set.mro
  have m1 := F.called_set.made
  have m2 := F.called_set.sub
  have m3 := F.called_set.notType
  have m4 := F.called_set.canCreate
  have m5 := F.typeCall_set_1 (.ref l)
  refine wpAny_call (codeAny_of_tree (?_ : wpAny _ _ (callAny (.type "set") _) _ _ _))
  refine wpAny_pure ⟨Code.quiet_builtin _ (by decide +kernel), codeAny_builtin F.entry_type_call ?_⟩
  rw [Around.under_plain (weight_type_call_type "set" [.ref l] []) rfl]
  walk_at "go on"
  refine codeAny_mono (code_set_led1 (.ref l) (E := E) (Q₁ := fun v z => v = .ref s.heap.objs.size ∧ z = { s with heap := s.heap.push (bare w) }) ⟨rfl, rfl⟩) fun r s1 hr => ?_
  rcases r with e | fl
  · exact hr
  cases fl with
  | ret v =>
    obtain ⟨rfl, rfl⟩ := hr
    have top : (s.heap.push (bare w)).get? s.heap.objs.size = some (bare w) := Heap.get?_push_size _ rfl
    have ty : Shared.TypeIs { s with heap := s.heap.push (bare w) } (.ref s.heap.objs.size) "set" := ⟨_, top, rfl⟩
    have i1 := F.called_set.init.lookup
    have i2 := F.called_set.init.bind (.ref s.heap.objs.size)
    walk_at "go on"
    refine codeAny_mono (codeAny_call_builtin (R := wants (fun r s2 => r = .none ∧ ∃ h' tk L es ep t, s2 = { s with heap := h', toks := tk } ∧ Ts P w h' s.heap.objs.size L es ep t ∧ Got ks ks.length L ∧ (∀ b o, s.heap.get? b = some o → h'.get? b = some o)) E) F.called_set.init.plain F.entry_set_init (check_set_init_1 ty ?_)) fun r2 s2 hr2 => ?_
    · obtain ⟨ol, hol, hc, nl, hdl⟩ := hl
      obtain ⟨oc, od, ot, os⟩ := ol
      dsimp only at hc hdl
      subst hc hdl
      have here : (s.heap.push (bare w)).get? l = some { cls := .type "list", dict := od, data := .seq items nl, slots := os } := Heap.get?_push_of_some _ hol
      have n1 := F.sub_list_set
      have n2 := F.sub_list_frozenset
      have n3 : (Value.type "list" == Value.type "dict") = false := by decide
      have isl : (s.heap.push (bare w)).IsList l items := ⟨_, here, rfl, nl, rfl⟩
      have lt : l < s.heap.objs.size := Heap.lt_size hol
      have hh3 : A.in1.in1.in1.handled = none := by simp [hh]
      have sz : (s.heap.push (bare w)).objs.size = s.heap.objs.size + 1 := Heap.size_push ..
      unfold Builtin.«set.__init__» noKeywords Builtin.Frozenset.updateFrom
      generalize hPI : pyIter = PI
      wp_walk
      subst hPI
      refine wpAny_pyIter_list isl (wpAny_bind (wpAny_runValue ?_))
      have many : items.size = ks.length := by rw [← Array.length_toList, hit, List.length_map]
      have above : ∀ b, s.heap.objs.size ≤ b → s.heap.get? b = none := fun b hb => by
        cases q : s.heap.get? b with
        | none => rfl
        | some o => exact absurd (Nat.lt_of_lt_of_le (Heap.lt_size q) hb) (Nat.lt_irrefl _)
      have item : ∀ (i : Nat) (v : Value), items[i]? = some v → ∃ p, ks[i]? = some p ∧ v = .ref p.1 := fun i v hv => by
        rw [← Array.getElem?_toList, hit, List.getElem?_map] at hv
        obtain ⟨p, hp, e⟩ := Option.map_eq_some_iff.mp hv
        exact ⟨p, hp, e.symm⟩
      refine fills ((Walks.list hh3 _ l (by rw [sz]; exact Nat.ne_of_lt (Nat.lt_succ_of_lt lt)) items).toS) s.heap.objs.size (fun z => by
        rcases List.mem_cons.mp z with z | z
        · rw [sz] at z; exact Nat.ne_of_lt (Nat.lt_succ_self _) z
        · exact Nat.ne_of_gt lt (List.mem_singleton.mp z)) ks many few item s.heap hk (above _ (Nat.le_refl _)) (fun b hb => above b (by rw [List.mem_singleton.mp hb, sz]; exact Nat.le_succ _)) hu items.size 0 _ (Nat.zero_add _)
        ⟨⟨_, Heap.get?_push_size _ rfl, rfl, rfl⟩, isl.push _⟩ (fun b o e => Heap.get?_push_of_some _ (Heap.get?_push_of_some _ e)) ⟨[], #[], 0, _, Ts.none (Heap.get?_push_of_some _ top), Got.zero ks⟩ fun s' L es ep t mv T g kp => ?_
      obtain ⟨h', g2, d', tk', os'⟩ := s'
      have e1 : g2 = s.gens := mv.gens
      have e2 : d' = s.drawn := mv.drawn
      have e3 : os' = s.os := mv.os
      subst e1 e2 e3
      rw [many] at g
      show wpAny _ _ _ _ _ _
      refine wpAny_pure ?_
      show wpAny _ _ (ret Value.none) _ _ _
      exact wpAny_pure ⟨rfl, h', tk', L, es, ep, t, rfl, T, g, kp⟩
    · rcases r2 with e | fl2
      · exact hr2
      cases fl2 with
      | ret r =>
        obtain ⟨rfl, h', tk, L, es, ep, t, rfl, T, g, kp⟩ := hr2
        walk_at "go on"
        exact h _ _ _ _ _ _ T g kp
      | _ => exact hr2.elim
  | _ => exact hr.elim
end
end BigS

namespace BigS
open PySem PySem.Spec PyProof.Rows L2
/-- a set of so many, whatever they are -/
structure CountP (a : Addr) (n : Nat) (h : Heap) : Prop where
  ex : ∃ o es ep t, h.get? a = some o ∧ o.ExactSet ∧ o.data = .set es ep t ∧ t.fits es.size = true ∧ es.size = n
def CountO (a : Addr) (n : Nat) : HO := .ext (CountP a n)
theorem countO_new {P : Program} {w : World} {H : Hp} {h : Heap} {a : Addr} {n : Nat} (R : CountP a n h) : ObjOk P w H h a (CountO a n) := by
  have ⟨o, es, ep, t, ho, r⟩ := R.ex
  refine ⟨R, ⟨o, ho⟩, fun h1 h2 p k => ?_⟩
  have ⟨o', es', ep', t', ho', r'⟩ := CountP.ex p
  exact ⟨o', es', ep', t', k o' ho', r'⟩
section
variable {X : Cx}
def rSetC (K : PySem.W.Frag) : List V → Hp → VK → Prop := fun xs H Q => ∃ (l : Addr) (ks : List (Addr × List Int)), xs = [V.ref l] ∧ SqL K H l (ks.map fun p => V.ref p.1) ∧ (∀ p ∈ ks, SqT K H p.1 (p.2.map V.int)) ∧ ks.length < 1228 ∧
  ∀ (a : Addr) (L : List (List Int)), H a = none → L.Nodup → L.length < 1228 → (∀ k, k ∈ L ↔ k ∈ ks.map (·.2)) → Q (.ref a) (upd H a (CountO a L.length))
theorem cr_setC (hc : X.calm = true) (hu : X.A.units + 64 < cLine) : CallR X (.type "set") (rSetC X.K) := by
  intro pins s σ H xs us Q I r h
  obtain ⟨l, ks, rfl, hl, hk, few, q⟩ := h
  rw [Vals.ref1 r]
  obtain ⟨its, rv, pl, hz⟩ := I.list hl
  have free : H s.heap.objs.size = none := I.hok.fresh (Nat.le_refl _)
  refine made (P := X.prog) (w := X.w) ks (I.ok.hd hc) pl.isList (by simpa using refs_of_vals rv) (fun p hp => I.isT (hk p hp)) few (by omega) fun h' tk L es ep t T g kp => ?_
  have C : CountP s.heap.objs.size (L.map (·.2)).length h' := by
    obtain ⟨o, ho, hex, hd⟩ := T.at_
    exact ⟨o, es, ep, t, ho, hex, hd, Ts.fit (s := { s with heap := h' }) T, by rw [List.length_map]; exact ent_size T.ent⟩
  refine ⟨.ref s.heap.objs.size, upd H s.heap.objs.size (CountO s.heap.objs.size (L.map (·.2)).length), I.laid (t' := tk) kp (Nat.le_refl _) (countO_new C), rfl, q _ _ free T.one (by rw [List.length_map]; exact Nat.lt_of_le_of_lt g.len few) fun k => ⟨fun hm => ?_, fun hm => ?_⟩⟩
  · obtain ⟨p, hp, rfl⟩ := List.mem_map.mp hm
    exact List.mem_map_of_mem (f := (·.2)) (List.mem_of_mem_take (g.sub p hp))
  · obtain ⟨p, hp, rfl⟩ := List.mem_map.mp hm
    exact g.all p (by rw [List.take_length]; exact hp)
def rLenC : List V → Hp → VK → Prop := fun vs H Q => ∃ (a : Addr) (n : Nat), vs = [V.ref a] ∧ H a = some (CountO a n) ∧ n < 1228 ∧ Q (.int (n : Nat)) H
theorem cr_lenC : CallR X (.builtin "len") rLenC := by
  intro pins s σ H vs us Q I r h
  obtain ⟨a, n, rfl, ha, few, q⟩ := h
  have C : CountP a n s.heap := (I.hok a _ ha).1
  obtain ⟨o, es, ep, t, ho, hex, hd, hf, hn⟩ := C.ex
  rw [Vals.ref1 r]
  exact call_len_set ho hex hd hf (by rw [hn]; omega) ⟨.int (n : Nat), H, I.tok _, ⟨_, by rw [hn]⟩, q⟩
end
end BigS
namespace L3
open PySem PySem.Spec PyProof.Rows L2
/-- len(set(xs)), xs fewer than 1228 tuples of ints -/
def tLenSetG3 (te : TE3) : TE3 := fun env S Q => te env S fun x S1 => match lst3 S1 x with
  | some ds => match allP tups? ds with
    | some kss => kss.length < 1228 ∧ ∀ L : List (List Int), L.Nodup → (∀ k, k ∈ L ↔ k ∈ kss) → Q (.p (.int (L.length : Nat))) S1
    | none => False
  | none => False
theorem qe_lenSetG {X : Cx} {e : Expr} {te : TE3} {p q pos pos' : Pos} (hc : X.calm = true) (hu : X.A.units + 64 < cLine) (hg : Gl X "len") (hm : X.mg "len" = none) (hg2 : Gl X "set") (hm2 : X.mg "set" = none) (ha : QE X e te)
    (hs : starEach [e] X.env = (false, eval e X.env) :: starEach [] X.env := by rfl) (hpl : (backTo pos' (starEach [] X.env)).any (·.1) = false := by rfl)
    (hs2 : starEach [.Call (.Name "set" q) [e] [] pos'] X.env = (false, eval (.Call (.Name "set" q) [e] [] pos') X.env) :: starEach [] X.env := by rfl) (hpl2 : (backTo pos (starEach [] X.env)).any (·.1) = false := by rfl) :
    QE X (.Call (.Name "len" p) [.Call (.Name "set" q) [e] [] pos'] [] pos) (tLenSetG3 te) :=
  L2.PE.imp (pe_callB BigS.cr_lenC hg hm (by decide +kernel) (pa_cons (pe_callTy (BigS.cr_setC hc hu) hg2 hm2 (by decide +kernel) (pa_cons ha pa_nil hs) (by decide) (by decide) hs hpl) pa_nil hs2) (by decide) (by decide) hs2 hpl2) fun σ H R ⟨w, env, S, Q, r0, en, t, q⟩ => by
    refine ⟨w, env, S, _, r0, en, t, fun w1 v d H1 S1 e1 r1 p1 t1 => ?_⟩
    split at t1
    rotate_left
    · exact t1.elim
    rename_i ds h1
    split at t1
    rotate_left
    · exact t1.elim
    rename_i kss h2
    obtain ⟨c1, t1⟩ := t1
    obtain ⟨a, xs, rfl, hq, hd, hz⟩ := lst3_low r1 p1 h1
    obtain ⟨ks, rfl, rfl, hk⟩ := tups_low hd h2
    rw [List.length_map] at c1
    refine ⟨a, ks, rfl, hq, fun p hp => Same.sqT r1.sub (hk p hp), c1, fun b L hn nd few iff => ?_⟩
    obtain ⟨r2, e2⟩ := r1.frz (u := BigS.CountO b L.length) hn trivial
    exact ⟨b, L.length, rfl, upd_same, few, q _ (.int (L.length : Nat)) (.p (.int (L.length : Nat))) _ S1 (e1.trans e2) r2 (.int _) (t1 L nd iff)⟩
end L3

/-! ### xs[-2::-1] of a list: all but its last thing, the last first -/
namespace L3
open PySem PySem.Spec PyProof.Rows L2
theorem rev2_bounds (n : Nat) : sliceBounds (some (-2)) none (some (-1)) n = (((n - 1 : Nat) : Int) - 1, -1, -1) := by
  have e : sliceBounds (some (-2)) none (some (-1)) n = (max (-1) (min (-2 + (n : Int)) ((n : Int) - 1)), -1, -1) := by simp [sliceBounds]
  rw [e]
  congr 1
  omega
theorem rev2_pick (items : Array Value) : slicePick items (some (-2)) none (some (-1)) = items.toList.dropLast.reverse.toArray := by
  unfold slicePick
  rw [rev2_bounds]
  show ((sliceRange (((items.size - 1 : Nat) : Int) - 1) (-1) (-1)).filterMap (items[·]?)).toArray = _
  rw [PySem.W.krv_sliceRange, PySem.W.krv_range, List.filterMap_reverse]
  have h := pick_run items 0 (items.size - 1)
  have e : (List.range (items.size - 1)).map (0 + ·) = List.range (items.size - 1) := by
    rw [show ((0 + ·) : Nat → Nat) = id from funext fun k => Nat.zero_add k, List.map_id]
  rw [e, List.drop_zero] at h
  rw [h, List.dropLast_eq_take, Array.length_toList]
def tRevE (K : PySem.W.Frag) (te : TE) : TE := fun σ H Q => te σ H fun x H1 => ∃ a xs, x = .ref a ∧ SqL K H1 a xs ∧ ∀ p, H1 p = none → Q (.ref p) (upd H1 p (.lst xs.dropLast.reverse))
theorem vals_dropLast {xs : List V} {zs : List Value} (r : Vals xs zs) : Vals xs.dropLast zs.dropLast := by
  rw [List.dropLast_eq_take, List.dropLast_eq_take, r.length]
  exact r.take _
theorem pe_revE {X : Cx} {e : Expr} {te : TE} {k k2 : Nat} {p1 p2 p3 p4 p5 pos : Pos} (he : PE X e te) : PE X (.Subscript e (.Slice (some (.UnaryOp .USub (.Constant (.int 2) k2 p4) p5)) none (some (.UnaryOp .USub (.Constant (.int 1) k p1) p2)) p3) pos) (tRevE X.K te) := by
  refine ⟨fun pins s σ H Q I h => ?_⟩
  refine Subscript_ (thn (he.run pins s σ H _ I h) fun v s1 ⟨x, H1, I1, r1, q1⟩ => ?_)
  obtain ⟨a, xs, ex, hx, q⟩ := q1
  subst ex
  cases r1
  have hst : PO X (some (.UnaryOp .USub (.Constant (.int 1) k p1) p2)) (tPart (tUn (rU fun i => .int (-i)) (tC (.int 1)))) := po_some (pe_un un_neg pe_int)
  have hlo : PO X (some (.UnaryOp .USub (.Constant (.int 2) k2 p4) p5)) (tPart (tUn (rU fun i => .int (-i)) (tC (.int 2)))) := po_some (pe_un un_neg pe_int)
  refine wpAny_Slice (thn (hlo.run pins s1 σ H1 (fun o H2 => o = some (-2) ∧ H2 = H1) I1 ⟨2, rfl, -2, rfl, rfl, rfl⟩) fun vl s2 ⟨l, H2, I2, pl, el, e2⟩ => ?_)
  subst el e2
  refine thn (po_none.run pins s2 σ H2 (fun o H3 => o = none ∧ H3 = H2) I2 ⟨rfl, rfl⟩) fun vu s3 ⟨u, H3, I3, pu, eu, e3⟩ => ?_
  subst eu e3
  refine thn (hst.run pins s3 σ H3 (fun o H4 => o = some (-1) ∧ H4 = H3) I3 ⟨1, rfl, -1, rfl, rfl, rfl⟩) fun vs s4 ⟨o, H4, I4, ps, eo, e4⟩ => ?_
  subst eo e4
  have I5 : L2.Inv X pins σ H4 { s4 with heap := s4.heap.push { cls := .type "slice", data := .fields #[vl, vu, vs] } } := I4.kept (t' := s4.toks) fun b ob q => Heap.get?_push_of_some _ q
  obtain ⟨its, r, ht, hz⟩ := I5.list hx
  have hlen := r.length
  show wpAny (model X.prog X.w) X.A (subscriptTail e (.Slice (some (.UnaryOp .USub (.Constant (.int 2) k2 p4) p5)) none (some (.UnaryOp .USub (.Constant (.int 1) k p1) p2)) p3) (.ref a) (.ref s4.heap.objs.size)) (EP X pins σ Q) X.xe { s4 with heap := s4.heap.push { cls := .type "slice", data := .fields #[vl, vu, vs] } }
  refine tail_any (ops := [.ref a, .ref s4.heap.objs.size]) ht.isList.typeIs (PySem.slot_list_getitem.lookup) ?_ (by with_unfolding_all rfl)
  refine wpAny_getItem_list_slice ht.isList (Heap.IsSliceOf.new _ vl vu vs) pl pu ps (by decide) ?_ (by rw [List.size_toArray]; omega)
  rw [rev2_pick]
  refine ⟨.ref _, _, I5.laid (t' := s4.toks) (o := .lst xs.dropLast.reverse) (fun b ob q => Heap.get?_push_of_some _ q) (Nat.le_refl _) ?_, rfl, q _ (I5.hok.fresh (Nat.le_refl _))⟩
  exact ⟨by rw [List.length_reverse, List.length_dropLast]; omega, _, 0, (vals_dropLast r).reverse, Heap.get?_push_size _ rfl⟩
/-- x[-2::-1] of a list (the new one changes no more) -/
def tRevE3 (te : TE3) : TE3 := fun env S Q => te env S fun x S1 => match lst3 S1 x with
    | some ds => Q (.p (.list ds.dropLast.reverse)) S1
    | none => False
theorem dpAll_dropLast {K : PySem.W.Frag} {h : Hp} {vs : List V} {ds : List PyData} (r : DpAll K h vs ds) : DpAll K h vs.dropLast ds.dropLast := by
  rw [List.dropLast_eq_take, List.dropLast_eq_take, DpAll.length r]
  exact DpAll.take _ r
theorem qe_revE {X : Cx} {e : Expr} {te : TE3} {k k2 : Nat} {p1 p2 p3 p4 p5 pos : Pos} (he : QE X e te) : QE X (.Subscript e (.Slice (some (.UnaryOp .USub (.Constant (.int 2) k2 p4) p5)) none (some (.UnaryOp .USub (.Constant (.int 1) k p1) p2)) p3) pos) (tRevE3 te) :=
  (pe_revE he).imp fun σ H R ⟨w, env, S, Q, r0, en, t, q⟩ => by
    refine ⟨w, env, S, _, r0, en, t, fun w1 v d H1 S1 e1 r1 p1 t1 => ?_⟩
    split at t1
    · rename_i ds h1
      obtain ⟨a, xs, rfl, hq, ha, hlen⟩ := lst3_low r1 p1 h1
      exact ⟨a, xs, rfl, hq, (q.mono e1).lst r1 (DpAll.reverse (dpAll_dropLast ha)) (by rw [List.length_reverse, List.length_dropLast]; omega) t1⟩
    · exact t1.elim
end L3

namespace G_k21
open PySem PySem.Spec PyProof.Rows L2 L3
def topS (i : Nat) : Stmt := PySem.Challenge.pw_windowfloor_k21_least_row.main.body.getD i (.Pass ⟨0, 0, 0, 0⟩)
abbrev s_raised : Stmt := topS 1
abbrev nm_raised : List Str := ["number", "times", "made", "turn"]
theorem sc_raised : FnScope nm_raised ["number", "times"] (defScope s_raised) := ⟨rfl, rfl, rfl, by decide +kernel, rfl, by decide +kernel, by decide +kernel⟩
abbrev s_need_few : Stmt := topS 7
abbrev nm_need_few : List Str := ["k", "n"]
theorem sc_need_few : FnScope nm_need_few ["k", "n"] (defScope s_need_few) := ⟨rfl, rfl, rfl, by decide +kernel, rfl, by decide +kernel, by decide +kernel⟩
abbrev s_least_words : Stmt := topS 8
abbrev nm_least_words : List Str := ["k", "n", "found", "word", "at"]
theorem sc_least_words : FnScope nm_least_words ["k", "n"] (defScope s_least_words) := ⟨rfl, rfl, rfl, by decide +kernel, rfl, by decide +kernel, by decide +kernel⟩
abbrev s_least_row : Stmt := topS 9
abbrev nm_least_row : List Str := ["k", "n", "row", "word"]
theorem sc_least_row : FnScope nm_least_row ["k", "n"] (defScope s_least_row) := ⟨rfl, rfl, rfl, by decide +kernel, rfl, by decide +kernel, by decide +kernel⟩
abbrev s__law_power : Stmt := topS 11
abbrev nm__law_power : List Str := ["_law_number", "_law_times", "_law_made", "_law_turn"]
theorem sc__law_power : FnScope nm__law_power ["_law_number", "_law_times"] (defScope s__law_power) := ⟨rfl, rfl, rfl, by decide +kernel, rfl, by decide +kernel, by decide +kernel⟩
abbrev s__law_hand : Stmt := topS 12
abbrev nm__law_hand : List Str := ["_law_script", "_law_k", "_law_cell", "_law_great"]
theorem sc__law_hand : FnScope nm__law_hand ["_law_script", "_law_k"] (defScope s__law_hand) := ⟨rfl, rfl, rfl, by decide +kernel, rfl, by decide +kernel, by decide +kernel⟩
abbrev s__law_take : Stmt := topS 13
abbrev nm__law_take : List Str := ["_law_hand_here", "_law_many", "_law_digit", "_law_mixed"]
theorem sc__law_take : FnScope nm__law_take ["_law_hand_here", "_law_many"] (defScope s__law_take) := ⟨rfl, rfl, rfl, by decide +kernel, rfl, by decide +kernel, by decide +kernel⟩
abbrev s__law_pick : Stmt := topS 14
abbrev nm__law_pick : List Str := ["_law_hand_here", "_law_some"]
theorem sc__law_pick : FnScope nm__law_pick ["_law_hand_here", "_law_some"] (defScope s__law_pick) := ⟨rfl, rfl, rfl, by decide +kernel, rfl, by decide +kernel, by decide +kernel⟩
abbrev s__law_same : Stmt := topS 15
abbrev nm__law_same : List Str := ["_law_found", "_law_due", "_law_one", "_law_other"]
theorem sc__law_same : FnScope nm__law_same ["_law_found", "_law_due"] (defScope s__law_same) := ⟨rfl, rfl, rfl, by decide +kernel, rfl, by decide +kernel, by decide +kernel⟩
abbrev s__law_sizes : Stmt := topS 16
abbrev nm__law_sizes : List Str := ["_law_hand_here", "_law_few", "_law_many", "_law_k", "_law_n", "_law_most", "_law_long"]
theorem sc__law_sizes : FnScope nm__law_sizes ["_law_hand_here"] (defScope s__law_sizes) := ⟨rfl, rfl, rfl, by decide +kernel, rfl, by decide +kernel, by decide +kernel⟩
abbrev s__law_full : Stmt := topS 17
abbrev nm__law_full : List Str := ["_law_hand_here", "_law_k", "_law_n", "_law_ends", "_law_end", "_law_left", "_law_pile", "_law_numbers", "_law_number"]
theorem sc__law_full : FnScope nm__law_full ["_law_hand_here", "_law_k", "_law_n"] (defScope s__law_full) := ⟨rfl, rfl, rfl, by decide +kernel, rfl, by decide +kernel, by decide +kernel⟩
abbrev s__law_is_full : Stmt := topS 18
abbrev nm__law_is_full : List Str := ["_law_row", "_law_k", "_law_n", "_law_round_again", "_law_number", "_law_at"]
theorem sc__law_is_full : FnScope nm__law_is_full ["_law_row", "_law_k", "_law_n"] (defScope s__law_is_full) := ⟨rfl, rfl, rfl, by decide +kernel, rfl, by decide +kernel, by decide +kernel⟩
abbrev s__law_words : Stmt := topS 19
abbrev nm__law_words : List Str := ["_law_k", "_law_long", "_law_words_here", "_law_turn", "_law_longer", "_law_word", "_law_number"]
theorem sc__law_words : FnScope nm__law_words ["_law_k", "_law_long"] (defScope s__law_words) := ⟨rfl, rfl, rfl, by decide +kernel, rfl, by decide +kernel, by decide +kernel⟩
abbrev s__law_put_together : Stmt := topS 20
abbrev nm__law_put_together : List Str := ["_law_k", "_law_n", "_law_found", "_law_long", "_law_word", "_law_row", "_law_at"]
theorem sc__law_put_together : FnScope nm__law_put_together ["_law_k", "_law_n"] (defScope s__law_put_together) := ⟨rfl, rfl, rfl, by decide +kernel, rfl, by decide +kernel, by decide +kernel⟩
abbrev s__law_least_of_all : Stmt := topS 21
abbrev nm__law_least_of_all : List Str := ["_law_k", "_law_n", "_law_pile", "_law_found", "_law_row", "_law_words_here", "_law_word", "_law_at", "_law_number"]
theorem sc__law_least_of_all : FnScope nm__law_least_of_all ["_law_k", "_law_n"] (defScope s__law_least_of_all) := ⟨rfl, rfl, rfl, by decide +kernel, rfl, by decide +kernel, by decide +kernel⟩
abbrev s_law : Stmt := topS 22
abbrev nm_law : List Str := ["_law_script", "_law_k", "_law_hand_here", "_law_most", "_law_n", "_law_row", "_law_turn", "_law_other", "_law_at"]
theorem sc_law : FnScope nm_law ["_law_script"] (defScope s_law) := ⟨rfl, rfl, rfl, by decide +kernel, rfl, by decide +kernel, by decide +kernel⟩
/-- what stands behind the top -/
structure Txt (K : PySem.W.Frag) (mg : Str → Option Value) (base : Heap) : Prop where
  nd : base.NoDigits
  b_all : mg "all" = none
  b_bool : mg "bool" = none
  b_int : mg "int" = none
  b_isinstance : mg "isinstance" = none
  b_len : mg "len" = none
  b_list : mg "list" = none
  b_max : mg "max" = none
  b_min : mg "min" = none
  b_range : mg "range" = none
  b_set : mg "set" = none
  b_sorted : mg "sorted" = none
  b_tuple : mg "tuple" = none
  b_zip : mg "zip" = none
  c_MOST_LONG : ∃ (u : Value) (v : V), mg "MOST_LONG" = some u ∧ RelV v u ∧ ∀ H, L3.Dp K H v (.int 600)
  f_raised : ∃ f fd, Fun K "raised" "raised" s_raised f fd ∧ mg "raised" = some (.ref f) ∧ Binds K fd ["number", "times"] []
  f_need_few : ∃ f fd, Fun K "need_few" "need_few" s_need_few f fd ∧ mg "need_few" = some (.ref f) ∧ Binds K fd ["k", "n"] []
  f_least_words : ∃ f fd, Fun K "least_words" "least_words" s_least_words f fd ∧ mg "least_words" = some (.ref f) ∧ Binds K fd ["k", "n"] []
  f_least_row : ∃ f fd, Fun K "least_row" "least_row" s_least_row f fd ∧ mg "least_row" = some (.ref f) ∧ Binds K fd ["k", "n"] []
  f__law_power : ∃ f fd, Fun K "_law_power" "_law_power" s__law_power f fd ∧ mg "_law_power" = some (.ref f) ∧ Binds K fd ["_law_number", "_law_times"] []
  f__law_hand : ∃ f fd, Fun K "_law_hand" "_law_hand" s__law_hand f fd ∧ mg "_law_hand" = some (.ref f) ∧ Binds K fd ["_law_script", "_law_k"] []
  f__law_take : ∃ f fd, Fun K "_law_take" "_law_take" s__law_take f fd ∧ mg "_law_take" = some (.ref f) ∧ Binds K fd ["_law_hand_here", "_law_many"] []
  f__law_pick : ∃ f fd, Fun K "_law_pick" "_law_pick" s__law_pick f fd ∧ mg "_law_pick" = some (.ref f) ∧ Binds K fd ["_law_hand_here", "_law_some"] []
  f__law_same : ∃ f fd, Fun K "_law_same" "_law_same" s__law_same f fd ∧ mg "_law_same" = some (.ref f) ∧ Binds K fd ["_law_found", "_law_due"] []
  f__law_sizes : ∃ f fd, Fun K "_law_sizes" "_law_sizes" s__law_sizes f fd ∧ mg "_law_sizes" = some (.ref f) ∧ Binds K fd ["_law_hand_here"] []
  f__law_full : ∃ f fd, Fun K "_law_full" "_law_full" s__law_full f fd ∧ mg "_law_full" = some (.ref f) ∧ Binds K fd ["_law_hand_here", "_law_k", "_law_n"] []
  f__law_is_full : ∃ f fd, Fun K "_law_is_full" "_law_is_full" s__law_is_full f fd ∧ mg "_law_is_full" = some (.ref f) ∧ Binds K fd ["_law_row", "_law_k", "_law_n"] []
  f__law_words : ∃ f fd, Fun K "_law_words" "_law_words" s__law_words f fd ∧ mg "_law_words" = some (.ref f) ∧ Binds K fd ["_law_k", "_law_long"] []
  f__law_put_together : ∃ f fd, Fun K "_law_put_together" "_law_put_together" s__law_put_together f fd ∧ mg "_law_put_together" = some (.ref f) ∧ Binds K fd ["_law_k", "_law_n"] []
  f__law_least_of_all : ∃ f fd, Fun K "_law_least_of_all" "_law_least_of_all" s__law_least_of_all f fd ∧ mg "_law_least_of_all" = some (.ref f) ∧ Binds K fd ["_law_k", "_law_n"] []
  f_law : ∃ f fd, Fun K "law" "law" s_law f fd ∧ mg "law" = some (.ref f) ∧ Binds K fd ["_law_script"] []
local macro_rules | `(tactic| walk_at "sd") => `(tactic| first | assumption | decide +kernel | omega | exact mulOk_ite _ _ | (refine Or.inl ⟨?_, ?_⟩ <;> omega) | (refine Or.inr (Or.inl ⟨?_, ?_⟩) <;> omega) | (refine And.intro ?_ (Or.inl ?_) <;> omega))
local macro_rules | `(tactic| walk_at "cj") => `(tactic| repeat (refine And.intro ?_ ?_; walk_at "sd"))
local macro_rules | `(tactic| walk_at "rd") => `(tactic| try simp only [tSeq3, tNext3, tDrop3, tRet3, tRetN3, tIfS3, tSet3, tAsgT3, tPr3, tWhile3, tFor3, tLc3, tRng1, tRng2, tSeqI3, tYes3, wipe3, wipe3.clr, tPut3, tApp3, tPop3, tVar3, tC3, tOp3, tUn3, tNil3, tCons3, tCB3, tTest3, tChain3, tAnd3, tOr3, tNot3, tAndV3, tOrV3, tNotV3, tIf3, tTup3, tPure, tOwn, tLst3, pures, at3, set3, bind3_nm, bind3_tup, binds3_nil, binds3_cons, rAdd3, rSub3, rMulT3, rMul3, rMod3, rDiv3, rPow3, rLt3, rLe3, rGt3, rGe3, rEqS3, rNeS3, rIs3, rIsNot3, rInt, rInt0, L3.isNon, rNeg3, rIntOf3, rInt2, rReprD3, rLen3, rIx3, seq3, lst3, own3, atI_lit, ixN_lit, List.getElem?_cons_zero, List.getElem?_cons_succ, List.set_cons_zero, List.set_cons_succ, List.set_set, tIsi3, tSl3, tSlN3, tPart3, tNoPart3, tZipI3, tExtT3, tEnumerateI3, tEnumA3, tEnumR3, tReversedI3, tTupRev3, tLstOf3, rBls3, rInts3, rSumA3, rAbs3, rTupOf3, rMulS3, rIntT3, tExt3, rIn3, rInA3, tSortedI3, tSortedD3, rLtD3, tRev3, tRevE3, tDNew3, tDGet3, tDPut3, tDIn3, rMaxT3, tSetLL3, rIxL3, lls3, tIns3, tIdxL3, tLenSetG3, tTNew3, tTGet3, tTPut3, tTIn3, dic3, rLenA3, dik3, key3, tRgA3, tRgB3, tLstRgA, tLstRgB, tTupRgA, tTupRgB, tAug3, tAugI3, tDLit3, tPairs3, keysD, keyD, rEqL3, rNeL3, L3.data3, tSortSet3, tRepN3, tPopAt3, L3.under, isTy, decide_eq_true_eq, Bool.not_eq_true', env0, List.map, List.length_cons, List.length_nil, List.replicate, List.cons_append, List.nil_append, Nat.sub_self, Nat.reduceAdd, Nat.reduceSub, eqv_int, shaped_int, shaped_none, eqv_ni, eqv_in, eqv_str_self, shaped_ofStr, and_self, true_and, beq_iff_eq, bne_iff_ne, if_true, if_false, Bool.false_eq_true, List.length_set, Nat.reduceLT, Int.reduceLT, Int.reduceLE, Int.reduceToNat, Int.reducePow, Int.reduceMul, Int.reduceMod, Int.reduceAdd, Int.reduceSub, Int.reduceNeg, sizeLine_eq, Nat.reduceLeDiff, String.reduceBEq, String.reduceEq, beq_self_eq_true, beq_eq_false_iff_ne, ne_eq, decide_eq_false_iff_not, not_true_eq_false, not_false_eq_true, Bool.true_eq_false, Bool.or_true, Bool.or_false, reduceIte, ite_true, ite_false, decide_true, decide_false, Bool.not_true, Bool.not_false, Bool.and_true, Bool.true_and, List.length_map])
local macro_rules | `(tactic| walk_at "bd") => `(tactic| first | kernel_rfl | rfl | with_unfolding_all rfl)
local macro_rules | `(tactic| walk_at "rdx") => `(tactic| simp only [tSeq3, tNext3, tDrop3, tRet3, tRetN3, tIfS3, tSet3, tAsgT3, tPr3, tWhile3, tFor3, tLc3, tRng1, tRng2, tSeqI3, tYes3, wipe3, wipe3.clr, tPut3, tApp3, tPop3, tVar3, tC3, tOp3, tUn3, tNil3, tCons3, tCB3, tTest3, tChain3, tAnd3, tOr3, tNot3, tAndV3, tOrV3, tNotV3, tIf3, tTup3, tPure, tOwn, tLst3, pures, at3, set3, bind3_nm, bind3_tup, binds3_nil, binds3_cons, rAdd3, rSub3, rMulT3, rMul3, rMod3, rDiv3, rPow3, rLt3, rLe3, rGt3, rGe3, rEqS3, rNeS3, rIs3, rIsNot3, rInt, rInt0, L3.isNon, rNeg3, rIntOf3, rInt2, rReprD3, rLen3, rIx3, seq3, lst3, own3, atI_lit, ixN_lit, List.getElem?_cons_zero, List.getElem?_cons_succ, List.set_cons_zero, List.set_cons_succ, List.set_set, tIsi3, tSl3, tSlN3, tPart3, tNoPart3, tZipI3, tExtT3, tEnumerateI3, tEnumA3, tEnumR3, tReversedI3, tTupRev3, tLstOf3, rBls3, rInts3, rSumA3, rAbs3, rTupOf3, rMulS3, rIntT3, tExt3, rIn3, rInA3, tSortedI3, tSortedD3, rLtD3, tRev3, tRevE3, tDNew3, tDGet3, tDPut3, tDIn3, rMaxT3, tSetLL3, rIxL3, lls3, tIns3, tIdxL3, tLenSetG3, tTNew3, tTGet3, tTPut3, tTIn3, dic3, rLenA3, dik3, key3, tRgA3, tRgB3, tLstRgA, tLstRgB, tTupRgA, tTupRgB, tAug3, tAugI3, tDLit3, tPairs3, keysD, keyD, rEqL3, rNeL3, L3.data3, tSortSet3, tRepN3, tPopAt3, L3.under, isTy, decide_eq_true_eq, Bool.not_eq_true', env0, List.map, List.length_cons, List.length_nil, List.replicate, List.cons_append, List.nil_append, Nat.sub_self, Nat.reduceAdd, Nat.reduceSub, eqv_int, shaped_int, shaped_none, eqv_ni, eqv_in, eqv_str_self, shaped_ofStr, and_self, true_and, beq_iff_eq, bne_iff_ne, if_true, if_false, Bool.false_eq_true, List.length_set, Nat.reduceLT, Int.reduceLT, Int.reduceLE, Int.reduceToNat, Int.reducePow, Int.reduceMul, Int.reduceMod, Int.reduceAdd, Int.reduceSub, Int.reduceNeg, sizeLine_eq, Nat.reduceLeDiff, String.reduceBEq, String.reduceEq, beq_self_eq_true, beq_eq_false_iff_ne, ne_eq, decide_eq_false_iff_not, not_true_eq_false, not_false_eq_true, Bool.true_eq_false, Bool.or_true, Bool.or_false, reduceIte, ite_true, ite_false, decide_true, decide_false, Bool.not_true, Bool.not_false, Bool.and_true, Bool.true_and, List.length_map])

/-- a hand whose count is not above b -/
def HdB (S : S3) (n : Nat) (b : Int) : Prop := ∃ g x c : Int, S[n]? = some (some (.lst [.int g, .int x, .int c])) ∧ 0 ≤ c ∧ c ≤ b
theorem HdB.hd {S : S3} {n : Nat} {b : Int} (h : HdB S n b) : Hd S n := let ⟨g, x, c, e, _⟩ := h; ⟨g, x, c, e⟩
theorem HdB.le {S : S3} {n : Nat} {b b' : Int} (h : HdB S n b) (hb : b ≤ b') : HdB S n b' := let ⟨g, x, c, e, h0, h1⟩ := h; ⟨g, x, c, e, h0, by omega⟩
theorem HdTo.refl {S : S3} {n : Nat} (h : Hd S n) : HdTo n S S := by
  obtain ⟨g, x, c, e⟩ := h
  obtain ⟨hl, e'⟩ := List.getElem?_eq_some_iff.mp e
  exact ⟨g, x, c, by rw [← e', List.set_getElem_self]⟩
theorem take_one {α : Type} {xs : List α} {i : Nat} {x : α} (h : xs[i]? = some x) : xs.take (i + 1) = xs.take i ++ [x] := by
  rw [List.take_add_one, h]
  rfl
theorem atI_lt {α : Type} {xs : List α} {d : Int} (h0 : 0 ≤ d) (h1 : d < (xs.length : Int)) : ∃ (j : Nat) (x : α), d = (j : Int) ∧ j < xs.length ∧ xs[j]? = some x ∧ atI xs d = some x := by
  obtain ⟨j, rfl⟩ := Int.eq_ofNat_of_zero_le h0
  have hj : j < xs.length := by omega
  exact ⟨j, xs[j], rfl, hj, List.getElem?_eq_getElem hj, atI_nat (List.getElem?_eq_getElem hj)⟩

/-- a tree of ints, n tuples deep at most -/
def IT : Nat → PyData → Prop
  | 0, .int _ => True
  | _ + 1, .int _ => True
  | n + 1, .tuple ds => ∀ x ∈ ds, IT n x
  | _, _ => False
theorem it_int (n : Nat) (i : Int) : IT n (.int i) := by cases n <;> trivial
theorem it_tup {n : Nat} {ds : List PyData} (h : IT n (.tuple ds)) : ∃ m, n = m + 1 ∧ ∀ x ∈ ds, IT m x := by
  cases n with
  | zero => exact h.elim
  | succ n => exact ⟨n, rfl, h⟩
theorem it_tupI (n : Nat) (ns : List Int) : IT (n + 1) (tupI ns) := fun x hx => by
  obtain ⟨i, _, rfl⟩ := List.mem_map.mp hx
  exact it_int n i
theorem all_true (n : Nat) : (List.replicate n true).all id = true := by
  induction n with
  | zero => rfl
  | succ n ih => rw [List.replicate_succ, List.all_cons, ih]; rfl
theorem rep_snoc {α β : Type} (f : α → β) (a : α) (n : Nat) : (List.replicate n a).map f ++ [f a] = f a :: (List.replicate n a).map f := by
  have e : List.replicate n a ++ [a] = a :: List.replicate n a := by rw [← List.replicate_succ', List.replicate_succ]
  rw [show [f a] = [a].map f from rfl, ← List.map_append, e]
  rfl

/-- rows of ints in order -/
def lexI : List Int → List Int → Bool
  | [], [] => false
  | [], _ :: _ => true
  | _ :: _, [] => false
  | a :: as, b :: bs => if a = b then lexI as bs else decide (a < b)
theorem lexI_data : ∀ a b : List Int, PyProof.Rows.lexLt itemOrd (PySem.W.keyToksAll (a.map PyData.int)) (PySem.W.keyToksAll (b.map PyData.int)) = lexI a b
  | [], [] => by
    have := PySem.W.lex_pre [Sum.inl 0] [] []
    rw [List.map_nil]
    unfold PySem.W.keyToksAll
    exact this.trans rfl
  | [], b :: bs => by
    rw [List.map_nil, List.map_cons, PySem.W.toks_all_cons]
    unfold PySem.W.keyToksAll
    rw [PySem.W.lex_atom (by simp), PySem.W.lex_one]
    rfl
  | a :: as, [] => by
    rw [List.map_nil, List.map_cons, PySem.W.toks_all_cons]
    unfold PySem.W.keyToksAll
    rw [PySem.W.lex_atom (by simp), PySem.W.lex_one]
    rfl
  | a :: as, b :: bs => by
    rw [List.map_cons, List.map_cons]
    unfold lexI
    by_cases h : a = b
    · subst h
      rw [if_pos rfl, PySem.W.dataLt_all_yes rfl (by rw [eqv_int]; simp), lexI_data as bs]
    · rw [if_neg h, PySem.W.dataLt_all_no rfl (by rw [eqv_int]; simpa using h), PySem.W.dataLt_int]
theorem dataLt_tupI (a b : List Int) : PySem.W.dataLt (tupI a) (tupI b) = lexI a b := by
  unfold tupI
  rw [PySem.W.dataLt_tuple]
  exact lexI_data a b
theorem lexI_irr : ∀ a : List Int, lexI a a = false
  | [] => rfl
  | a :: as => by unfold lexI; rw [if_pos rfl, lexI_irr as]
theorem lexI_tot : ∀ {a b : List Int}, lexI a b = false → lexI b a = false → a = b
  | [], [], _, _ => rfl
  | [], _ :: _, h, _ => by cases h
  | _ :: _, [], _, h => by cases h
  | a :: as, b :: bs, h, h' => by
    unfold lexI at h h'
    by_cases e : a = b
    · subst e
      rw [if_pos rfl] at h h'
      rw [lexI_tot h h']
    · rw [if_neg e] at h
      rw [if_neg (Ne.symm e)] at h'
      have h1 := of_decide_eq_false h
      have h2 := of_decide_eq_false h'
      omega
theorem lexI_asym : ∀ {a b : List Int}, lexI a b = true → lexI b a = false
  | [], [], h => by cases h
  | [], _ :: _, _ => rfl
  | _ :: _, [], h => by cases h
  | a :: as, b :: bs, h => by
    unfold lexI at h ⊢
    by_cases e : a = b
    · subst e
      rw [if_pos rfl] at h ⊢
      exact lexI_asym h
    · rw [if_neg e] at h
      rw [if_neg (Ne.symm e)]
      have h1 := of_decide_eq_true h
      exact decide_eq_false (by omega)
theorem lexI_tr : ∀ {a b c : List Int}, lexI a b = true → lexI b c = true → lexI a c = true
  | [], _, [], h, h' => by
    have := lexI_asym h
    rw [h'] at this
    cases this
  | [], _, _ :: _, _, _ => rfl
  | _ :: _, [], _, h, _ => by cases h
  | _ :: _, _ :: _, [], _, h => by cases h
  | a :: as, b :: bs, c :: cs, h, h' => by
    unfold lexI at h h' ⊢
    by_cases e : a = b
    · subst e
      rw [if_pos rfl] at h
      by_cases e' : a = c
      · subst e'
        rw [if_pos rfl] at h' ⊢
        exact lexI_tr h h'
      · rw [if_neg e'] at h' ⊢
        exact h'
    · rw [if_neg e] at h
      have h1 := of_decide_eq_true h
      by_cases e' : b = c
      · subst e'
        rw [if_neg e]
        exact h
      · rw [if_neg e'] at h'
        have h2 := of_decide_eq_true h'
        rw [if_neg (by omega)]
        exact decide_eq_true (by omega)
def leI (a b : List Int) : Bool := !lexI b a
theorem leI_total (a b : List Int) : (leI a b || leI b a) = true := by
  unfold leI
  cases h : lexI b a with
  | false => rfl
  | true => rw [lexI_asym h]; rfl
theorem leI_trans (a b c : List Int) (h : leI a b = true) (h' : leI b c = true) : leI a c = true := by
  unfold leI at *
  simp only [Bool.not_eq_true'] at *
  cases e : lexI c a with
  | false => rfl
  | true =>
    exfalso
    by_cases hc : c = b
    · subst hc
      rw [e] at h
      cases h
    · have hcb : lexI b c = true := by
        cases x : lexI b c with
        | true => rfl
        | false => exact absurd (lexI_tot h' x) hc
      have := lexI_tr hcb e
      rw [h] at this
      cases this
theorem leI_anti {a b : List Int} (h : leI a b = true) (h' : leI b a = true) : a = b := by
  unfold leI at h h'
  simp only [Bool.not_eq_true'] at h h'
  exact lexI_tot h' h
theorem eq_sorted {α : Type} {R : α → α → Prop} (anti : ∀ a b, R a b → R b a → a = b) : ∀ {l l' : List α}, l.Perm l' → l.Pairwise R → l'.Pairwise R → l = l'
  | [], l', p, _, _ => (List.Perm.nil_eq p)
  | a :: l, [], p, _, _ => by
    have := p.length_eq
    simp at this
  | a :: l, b :: l', p, h, h' => by
    obtain ⟨h1, h2⟩ := List.pairwise_cons.mp h
    obtain ⟨h3, h4⟩ := List.pairwise_cons.mp h'
    have e : a = b := by
      have ha : a ∈ b :: l' := p.mem_iff.mp List.mem_cons_self
      have hb : b ∈ a :: l := p.mem_iff.mpr List.mem_cons_self
      rcases List.mem_cons.mp ha with e | ha
      · exact e
      · rcases List.mem_cons.mp hb with e | hb
        · exact e.symm
        · exact anti a b (h1 b hb) (h3 a ha)
    subst e
    rw [eq_sorted anti (List.perm_cons a |>.mp p) h2 h4]
/-- rows of ints sorted: any rising rearrangement is it -/
theorem sortD_rows {l l' : List (List Int)} (p : l.Perm l') (h : l'.Pairwise fun a b => lexI a b = true) : sortD (l.map tupI) = l'.map tupI := by
  have e : (l.map tupI).mergeSort (PySem.W.dataLe false id) = (l.mergeSort leI).map tupI := by
    refine (List.map_mergeSort (f := tupI) (r := leI) (s := PySem.W.dataLe false id) (l := l) fun a _ b _ => ?_).symm
    show leI a b = _
    rw [PySem.W.dataLe_eq]
    show leI a b = !PySem.W.dataLt (tupI b) (tupI a)
    rw [dataLt_tupI]
    rfl
  unfold sortD
  rw [e]
  congr 1
  refine eq_sorted (R := fun a b => leI a b = true) (fun a b => leI_anti) ((List.mergeSort_perm l leI).trans p) (List.pairwise_mergeSort leI_trans leI_total l) (h.imp fun {a b} h => ?_)
  unfold leI
  rw [lexI_asym h]
  rfl
theorem alike_rows (l : List (List Int)) (n : Nat) (hl : ∀ k ∈ l, k.length = n) : PySem.W.AllAlike (l.map tupI) := by
  have go : ∀ (a b : List Int), PySem.W.alikeAll (a.map PyData.int) (b.map PyData.int) = true := by
    intro a
    induction a with
    | nil => intro b; simp [PySem.W.alikeAll]
    | cons x xs ih =>
      intro b
      cases b with
      | nil => simp [PySem.W.alikeAll]
      | cons y ys =>
        rw [List.map_cons, List.map_cons, PySem.W.alikeAll, ih ys]
        rfl
  intro d hd d' hd'
  obtain ⟨a, _, rfl⟩ := List.mem_map.mp hd
  obtain ⟨b, _, rfl⟩ := List.mem_map.mp hd'
  unfold tupI
  rw [PySem.W.alike]
  exact go a b
theorem sortable_rows (l : List (List Int)) (hl : ∀ k ∈ l, k ≠ []) : PySem.W.Sortable (l.map tupI) := .inl fun d hd => by
  obtain ⟨a, ha, rfl⟩ := List.mem_map.mp hd
  cases a with
  | nil => exact absurd rfl (hl _ ha)
  | cons x xs => exact ⟨.int x, xs.map PyData.int, rfl⟩
theorem depth_rows (l : List (List Int)) : ∀ d ∈ l.map tupI, d.depth ≤ 60 := fun d hd => by
  obtain ⟨a, _, rfl⟩ := List.mem_map.mp hd
  unfold tupI PyData.depth
  rw [depthAll_ints]
  decide

abbrev Pl := Nat × Nat
theorem tupI_ne_none (a : List Int) : tupI a ≠ .none := fun h => by unfold tupI at h; cases h
theorem alike_ints : ∀ a b : List Int, PySem.W.alikeAll (a.map PyData.int) (b.map PyData.int) = true
  | [], _ => by simp [PySem.W.alikeAll]
  | _ :: _, [] => by simp [PySem.W.alikeAll]
  | x :: xs, y :: ys => by
    rw [List.map_cons, List.map_cons, PySem.W.alikeAll, alike_ints xs ys]
    rfl
theorem alike_tupI (a b : List Int) : PySem.W.alike (tupI a) (tupI b) = true := by
  unfold tupI
  rw [PySem.W.alike]
  exact alike_ints a b
theorem lexI_ne {a b : List Int} (h : lexI a b = true) : a ≠ b := fun e => by
  rw [e, lexI_irr] at h
  cases h

/-- a word read as a number -/
def valW (k : Int) (w : List Int) : Int := w.foldl (fun a d => a * k + d) 0
theorem valW_snoc (k : Int) (w : List Int) (d : Int) : valW k (w ++ [d]) = valW k w * k + d := by
  unfold valW
  rw [List.foldl_append]
  rfl
def Wd (k : Int) (n : Nat) (w : List Int) : Prop := w.length = n ∧ ∀ d ∈ w, 0 ≤ d ∧ d < k
theorem foldl_val (k : Int) : ∀ (w : List Int) (a : Int), w.foldl (fun a d => a * k + d) a = a * k ^ w.length + valW k w
  | [], a => by simp [valW]
  | d :: w, a => by
    unfold valW
    rw [List.foldl_cons, List.foldl_cons, foldl_val k w, foldl_val k w (0 * k + d), List.length_cons, Int.pow_succ]
    have e : (a * k + d) * k ^ w.length = a * (k ^ w.length * k) + d * k ^ w.length := by
      rw [Int.add_mul, Int.mul_assoc, Int.mul_comm k]
    rw [e, Int.zero_mul, Int.zero_add, Int.add_assoc]
theorem valW_cons (k d : Int) (w : List Int) : valW k (d :: w) = d * k ^ w.length + valW k w := by
  unfold valW
  rw [List.foldl_cons, foldl_val, Int.zero_mul, Int.zero_add]
  rfl
theorem pow_pos' {k : Int} (hk : 0 < k) : ∀ n : Nat, 0 < k ^ n
  | 0 => by simp
  | n + 1 => by
    rw [Int.pow_succ]
    exact Int.mul_pos (pow_pos' hk n) hk
theorem valW_bd {k : Int} (hk : 0 < k) : ∀ {w : List Int}, (∀ d ∈ w, 0 ≤ d ∧ d < k) → 0 ≤ valW k w ∧ valW k w < k ^ w.length
  | [], _ => by
    unfold valW
    exact ⟨Int.le_refl _, pow_pos' hk 0⟩
  | d :: w, h => by
    obtain ⟨h1, h2⟩ := valW_bd hk fun x hx => h x (List.mem_cons_of_mem _ hx)
    obtain ⟨d0, d1⟩ := h d List.mem_cons_self
    have hp := pow_pos' hk w.length
    rw [valW_cons, List.length_cons, Int.pow_succ]
    have a1 := Int.mul_nonneg d0 (Int.le_of_lt hp)
    have a2 := Int.mul_le_mul_of_nonneg_right (show d + 1 ≤ k by omega) (Int.le_of_lt hp)
    rw [Int.add_mul, Int.one_mul, Int.mul_comm k] at a2
    omega
theorem lex_val {k : Int} (hk : 0 < k) : ∀ {a b : List Int}, a.length = b.length → (∀ d ∈ a, 0 ≤ d ∧ d < k) → (∀ d ∈ b, 0 ≤ d ∧ d < k) → lexI a b = decide (valW k a < valW k b)
  | [], [], _, _, _ => by simp [lexI, valW]
  | [], _ :: _, h, _, _ => by cases h
  | _ :: _, [], h, _, _ => by cases h
  | x :: a, y :: b, hl, ha, hb => by
    have hl' : a.length = b.length := by simpa using hl
    have ha' := fun d hd => ha d (List.mem_cons_of_mem _ hd)
    have hb' := fun d hd => hb d (List.mem_cons_of_mem _ hd)
    obtain ⟨a0, a1⟩ := valW_bd hk ha'
    obtain ⟨b0, b1⟩ := valW_bd hk hb'
    have hp := pow_pos' hk b.length
    unfold lexI
    rw [valW_cons, valW_cons, hl']
    rw [hl'] at a1
    by_cases e : x = y
    · subst e
      rw [if_pos rfl, lex_val hk hl' ha' hb']
      congr 1
      rw [eq_iff_iff]
      constructor <;> intro h <;> omega
    · rw [if_neg e]
      congr 1
      rw [eq_iff_iff]
      constructor
      · intro h
        have := Int.mul_le_mul_of_nonneg_right (show x + 1 ≤ y by omega) (Int.le_of_lt hp)
        rw [Int.add_mul, Int.one_mul] at this
        omega
      · intro h
        rcases Int.lt_trichotomy x y with z | z | z
        · exact z
        · exact absurd z e
        · have := Int.mul_le_mul_of_nonneg_right (show y + 1 ≤ x by omega) (Int.le_of_lt hp)
          rw [Int.add_mul, Int.one_mul] at this
          omega
theorem rep_one {x k : Int} (n : Nat) (h : 0 ≤ x ∧ x < k) : PyData.tuple (rep3 [PyData.int x] (n : Int)) = tupI (rep3 [x] (n : Int)) ∧ Wd k n (rep3 [x] (n : Int)) := by
  refine ⟨?_, ?_, fun d hd => ?_⟩
  · unfold tupI rep3
    rw [List.map_flatten, List.map_replicate]
    rfl
  · rw [rep3_len, Int.toNat_natCast, List.length_singleton, Nat.one_mul]
  · unfold rep3 at hd
    obtain ⟨l, h1, h2⟩ := List.mem_flatten.mp hd
    rw [(List.mem_replicate.mp h1).2] at h2
    rw [List.mem_singleton.mp h2]
    exact h
theorem cut3_to {α : Type} (xs : List α) (s : Nat) : cut3 xs none (some (s : Int)) = xs.take s := by
  unfold cut3
  rw [HT.sIx_nat, HT.sIx_none, List.drop_zero, Nat.sub_zero]
  by_cases h : s ≤ xs.length
  · rw [Nat.min_eq_left h]
  · rw [Nat.min_eq_right (by omega), List.take_length, List.take_of_length_le (by omega)]
theorem cut3_from {α : Type} (xs : List α) (s : Nat) : cut3 xs (some (s : Int)) none = xs.drop s := by
  unfold cut3
  rw [HT.sIx_nat, HT.sIx_none]
  by_cases h : s ≤ xs.length
  · rw [Nat.min_eq_left h]
    exact List.take_of_length_le (by rw [List.length_drop]; exact Nat.le_refl _)
  · rw [Nat.min_eq_right (by omega), Nat.sub_self, List.take_zero, List.drop_eq_nil_of_le (by omega)]
theorem cut3_map {α β : Type} (f : α → β) (xs : List α) (a b : Option Int) : cut3 (xs.map f) a b = (cut3 xs a b).map f := by
  unfold cut3
  rw [List.length_map, List.map_take, List.map_drop]
theorem canLayAll0_ints : ∀ ws : List Int, PyData.canLayAll0 (ws.map PyData.int) = true
  | [] => by rw [List.map_nil]; unfold PyData.canLayAll0; rfl
  | w :: ws => by
    rw [List.map_cons]
    unfold PyData.canLayAll0
    rw [canLayAll0_ints ws]
    rfl
theorem eqv_tints (a b : List Int) : PyData.eqv (.tuple (a.map PyData.int)) (.tuple (b.map PyData.int)) = decide (a = b) := by
  simp only [PyData.eqv]
  exact eqvAll_ints a b
theorem shaped_tints (ws : List Int) : SeqAt.shaped (.tuple (ws.map PyData.int)) = true := by
  unfold SeqAt.shaped PyData.canLay0 PyData.depth
  rw [canLayAll0_ints, depthAll_ints]
  rfl
theorem ixN_nat (n k : Nat) (h : k < n) : ixN n (k : Int) = some k := by
  unfold ixN
  rw [if_pos (by omega)]
  simp [h]

def prN (p : Nat × Nat) : PyData := .tuple [.int (p.1 : Nat), .int (p.2 : Nat)]
def PairOk (x : PyData) : Prop := ∃ k m : Nat, x = .tuple [.int (k : Nat), .int (m : Nat)] ∧ ((k = 0 ∧ m = 0) ∨ (0 < k ∧ k ≤ 600 ∧ 0 < m ∧ m ≤ 40 ∧ k ^ m ≤ 600))
theorem pairs_ok {l : List (Nat × Nat)} (h1 : l.all (fun p => decide ((p.1 = 0 ∧ p.2 = 0) ∨ (0 < p.1 ∧ p.1 ≤ 600 ∧ 0 < p.2 ∧ p.2 ≤ 40 ∧ p.1 ^ p.2 ≤ 600))) = true) {x : PyData} (hx : x ∈ l.map prN) : PairOk x := by
  obtain ⟨p, hp, rfl⟩ := List.mem_map.mp hx
  exact ⟨p.1, p.2, rfl, of_decide_eq_true (List.all_eq_true.mp h1 p hp)⟩
theorem few_ok {x : PyData} (hx : x ∈ ([(1, 1), (1, 4), (2, 1), (2, 2), (2, 3), (2, 4), (2, 5), (3, 1), (3, 2), (3, 3), (4, 2), (5, 2), (6, 2)] : List (Nat × Nat)).map prN) : PairOk x := pairs_ok (by decide +kernel) hx
theorem many_ok {x : PyData} (hx : x ∈ ([(2, 6), (2, 7), (2, 8), (2, 9), (3, 4), (3, 5), (4, 3), (4, 4), (5, 3), (6, 3), (7, 3), (8, 3), (23, 2), (24, 2), (0, 0), (9, 1), (599, 1), (600, 1), (1, 40)] : List (Nat × Nat)).map prN) : PairOk x := pairs_ok (by decide +kernel) hx
theorem maxI_mem {ns : List Int} (h : ns ≠ []) : maxI ns ∈ ns := by
  cases ns with
  | nil => exact absurd rfl h
  | cons x xs =>
    obtain ⟨h1, h2, h3⟩ := maxI_go xs x
    rcases h3 with h3 | h3
    · exact List.mem_cons.mpr (.inl h3)
    · exact List.mem_cons_of_mem _ h3
theorem powN {k n : Nat} : ((k ^ n : Nat) : Int) = (k : Int) ^ n := Int.natCast_pow k n

def stripW (k : Int) (w : List Int) : List Int := (w.reverse.dropWhile fun d => decide (d = k - 1)).reverse
def incW (w : List Int) : List Int := w.dropLast ++ [w.getLast?.getD 0 + 1]
def cycW (n : Nat) (w : List Int) : List Int := (List.range n).map fun at' => w.getD (at' % w.length) 0
def duv (k : Int) (n : Nat) : Nat → List Int → List (List Int) → Option (List (List Int))
  | _, [], acc => some acc.reverse
  | 0, _ :: _, _ => none
  | m + 1, x :: xs, acc =>
    let w := incW (x :: xs)
    duv k n m (stripW k (cycW n w)) (if n % w.length = 0 then w :: acc else acc)
def wordsL (k : Nat) : Nat → List (List Int)
  | 0 => [[]]
  | l + 1 => (wordsL k l).flatMap fun w => (List.range k).map fun (d : Nat) => w ++ [((d : Nat) : Int)]
def lynB (w : List Int) : Bool := (List.range (w.length - 1)).all fun i => lexI w (w.drop (i + 1) ++ w.take (i + 1))
def leastB (k n : Nat) : List (List Int) := ((List.range n).filter fun i => decide (n % (i + 1) = 0)).flatMap fun i => (wordsL k (i + 1)).filter lynB
def insL (x : List Int) : List (List Int) → List (List Int)
  | [] => [x]
  | y :: ys => if leI x y then x :: y :: ys else y :: insL x ys
def isortL : List (List Int) → List (List Int)
  | [] => []
  | x :: xs => insL x (isortL xs)
def chkW (k n : Nat) : Bool := duv (k : Int) n 700 [-1] [] == some (isortL (leastB k n))
theorem insL_perm (x : List Int) : ∀ ys : List (List Int), (insL x ys).Perm (x :: ys)
  | [] => List.Perm.refl _
  | y :: ys => by
    unfold insL
    split
    · exact List.Perm.refl _
    · exact ((insL_perm x ys).cons y).trans (List.Perm.swap x y ys)
theorem isortL_perm : ∀ l : List (List Int), (isortL l).Perm l
  | [] => List.Perm.refl _
  | x :: xs => (insL_perm x (isortL xs)).trans ((isortL_perm xs).cons x)
theorem insL_ord (x : List Int) : ∀ {ys : List (List Int)}, ys.Pairwise (fun a b => leI a b = true) → (insL x ys).Pairwise (fun a b => leI a b = true)
  | [], _ => by
    unfold insL
    exact List.pairwise_singleton _ _
  | y :: ys, h => by
    obtain ⟨h1, h2⟩ := List.pairwise_cons.mp h
    unfold insL
    by_cases c : leI x y = true
    · rw [if_pos c]
      refine List.pairwise_cons.mpr ⟨fun z hz => ?_, h⟩
      rcases List.mem_cons.mp hz with rfl | hz
      · exact c
      · exact leI_trans x y z c (h1 z hz)
    · rw [if_neg c]
      refine List.pairwise_cons.mpr ⟨fun z hz => ?_, insL_ord x h2⟩
      have := (insL_perm x ys).mem_iff.mp hz
      rcases List.mem_cons.mp this with rfl | hz
      · have t := leI_total z y
        rw [Bool.or_eq_true] at t
        exact t.resolve_left c
      · exact h1 z hz
theorem isortL_ord : ∀ l : List (List Int), (isortL l).Pairwise (fun a b => leI a b = true)
  | [] => List.Pairwise.nil
  | x :: xs => insL_ord x (isortL_ord xs)
theorem sortD_isort (l : List (List Int)) : sortD (l.map tupI) = (isortL l).map tupI := by
  have e : (l.map tupI).mergeSort (PySem.W.dataLe false id) = (l.mergeSort leI).map tupI := by
    refine (List.map_mergeSort (f := tupI) (r := leI) (s := PySem.W.dataLe false id) (l := l) fun a _ b _ => ?_).symm
    show leI a b = _
    rw [PySem.W.dataLe_eq]
    show leI a b = !PySem.W.dataLt (tupI b) (tupI a)
    rw [dataLt_tupI]
    rfl
  unfold sortD
  rw [e]
  congr 1
  exact eq_sorted (R := fun a b => leI a b = true) (fun a b => leI_anti) ((List.mergeSort_perm l leI).trans (isortL_perm l).symm) (List.pairwise_mergeSort leI_trans leI_total l) (isortL_ord l)
theorem ixN_neg1 {n : Nat} (h : 0 < n) : ixN n (-1) = some (n - 1) := by
  unfold ixN
  rw [if_neg (by decide), if_pos (by omega)]
  congr 1
  omega
theorem set_last {α : Type} {w : List α} (h : w ≠ []) (y : α) : w.set (w.length - 1) y = w.dropLast ++ [y] := by
  have e := List.dropLast_concat_getLast h
  have hl : 0 < w.length := List.length_pos_iff.mpr h
  conv => lhs; rw [← e]
  rw [List.set_append_right _ _ (by rw [List.length_append, List.length_dropLast, List.length_singleton]; omega)]
  congr 1
  rw [List.length_append, List.length_dropLast, List.length_singleton]
  have : w.length - 1 + 1 - 1 - (w.length - 1) = 0 := by omega
  rw [this]
  rfl
theorem strip_snoc (k : Int) (w : List Int) : stripW k (w ++ [k - 1]) = stripW k w := by
  unfold stripW
  rw [List.reverse_append]
  simp
theorem strip_stop {k : Int} {w : List Int} (h : ∀ x, w.getLast? = some x → x ≠ k - 1) : stripW k w = w := by
  unfold stripW
  cases hr : w.reverse with
  | nil =>
    have : w = [] := List.reverse_eq_nil_iff.mp hr
    subst this
    rfl
  | cons x xs =>
    have e : w = xs.reverse ++ [x] := by
      have := congrArg List.reverse hr
      rw [List.reverse_reverse, List.reverse_cons] at this
      exact this
    have hx : x ≠ k - 1 := h x (by rw [e]; simp)
    rw [List.dropWhile_cons_of_neg (by simpa using hx), ← hr, List.reverse_reverse]
theorem incW_len {w : List Int} (h : w ≠ []) : (incW w).length = w.length := by
  have hl : 0 < w.length := List.length_pos_iff.mpr h
  unfold incW
  rw [List.length_append, List.length_dropLast, List.length_singleton]
  omega
theorem strip_len (k : Int) (w : List Int) : (stripW k w).length ≤ w.length := by
  unfold stripW
  rw [List.length_reverse]
  have := (List.dropWhile_sublist (fun d => decide (d = k - 1)) (l := w.reverse)).length_le
  rw [List.length_reverse] at this
  exact this
theorem duv_nil (k : Int) (n m : Nat) (acc : List (List Int)) : duv k n m [] acc = some acc.reverse := by
  cases m <;> rfl
theorem duv_some {k : Int} {n m : Nat} {w : List Int} {acc res : List (List Int)} (h : duv k n m w acc = some res) (hw : w ≠ []) : ∃ m', m = m' + 1 ∧ duv k n m' (stripW k (cycW n (incW w))) (if n % (incW w).length = 0 then incW w :: acc else acc) = some res := by
  cases w with
  | nil => exact absurd rfl hw
  | cons x xs =>
    cases m with
    | zero => cases h
    | succ m => exact ⟨m, rfl, h⟩
theorem incW_set {w : List Int} (h : w ≠ []) (x : Int) (hx : w.getLast? = some x) : (w.map PyData.int).set (w.length - 1) (.int (x + 1)) = (incW w).map PyData.int := by
  rw [← List.map_set, set_last h, incW, hx]
  rfl
theorem map_last (w : List Int) : atI (w.map PyData.int) (-1) = (w.getLast?).map PyData.int := by
  rw [atI_neg1, List.getLast?_map]
theorem wordsL_len (k : Nat) : ∀ l : Nat, (wordsL k l).length = k ^ l
  | 0 => rfl
  | l + 1 => by
    unfold wordsL
    rw [List.length_flatMap, Nat.pow_succ, ← wordsL_len k l]
    generalize wordsL k l = L
    induction L with
    | nil => simp
    | cons w L ih =>
      rw [List.map_cons, List.sum_cons, ih, List.length_map, List.length_range, List.length_cons, Nat.add_mul, Nat.one_mul, Nat.add_comm]
def extW (k : Nat) (w : List Int) : List (List Int) := (List.range k).map fun (d : Nat) => w ++ [((d : Nat) : Int)]
theorem wordsL_succ (k l : Nat) : wordsL k (l + 1) = (wordsL k l).flatMap (extW k) := rfl
theorem wordsL_long (k : Nat) : ∀ (l : Nat) (w : List Int), w ∈ wordsL k l → w.length = l
  | 0, w, h => by
    unfold wordsL at h
    rw [List.mem_singleton.mp h]
    rfl
  | l + 1, w, h => by
    rw [wordsL_succ, List.mem_flatMap] at h
    obtain ⟨v, hv, hw⟩ := h
    unfold extW at hw
    obtain ⟨d, _, rfl⟩ := List.mem_map.mp hw
    rw [List.length_append, wordsL_long k l v hv]
    rfl
theorem flatMap_len_le {α β : Type} (f : α → List β) (c : Nat) (h : ∀ a, (f a).length = c) : ∀ l : List α, (l.flatMap f).length = l.length * c
  | [] => by simp
  | a :: l => by
    rw [List.flatMap_cons, List.length_append, h a, flatMap_len_le f c h l, List.length_cons, Nat.add_mul, Nat.one_mul, Nat.add_comm]
theorem flatMap_take {α β : Type} (f : α → List β) {l : List α} {i : Nat} {a : α} (h : l[i]? = some a) : (l.take (i + 1)).flatMap f = (l.take i).flatMap f ++ f a := by
  rw [take_one h, List.flatMap_append]
  simp
def HasL (n : Nat) (s : S3) (d : D) (ws : List (List Int)) : Prop := d = .p (.list (ws.map tupI)) ∨ ∃ m, d = .loc m ∧ n ≤ m ∧ s[m]? = some (some (.lst (ws.map tupI)))
theorem take_set_ge' {α : Type} (s : List α) (n : Nat) (o : α) : (s.set n o).take n = s.take n := by
  rw [List.take_set]
  exact List.set_eq_of_length_le (by rw [List.length_take]; omega)
theorem flatMap_len_bd {α β : Type} (f : α → List β) (c : Nat) : ∀ l : List α, (∀ a ∈ l, (f a).length ≤ c) → (l.flatMap f).length ≤ l.length * c
  | [], _ => by simp
  | a :: l, h => by
    rw [List.flatMap_cons, List.length_append, List.length_cons, Nat.add_mul, Nat.one_mul]
    have := h a List.mem_cons_self
    have := flatMap_len_bd f c l fun b hb => h b (List.mem_cons_of_mem _ hb)
    omega
theorem ltOk_rows (a b : List Int) : LtOk (tupI a) (tupI b) := by
  refine ⟨?_, (by unfold tupI; intro z; cases z), depth_rows [a] _ List.mem_cons_self⟩
  have go : ∀ (a b : List Int), PySem.W.alikeAll (a.map PyData.int) (b.map PyData.int) = true := by
    intro a
    induction a with
    | nil => intro b; simp [PySem.W.alikeAll]
    | cons x xs ih =>
      intro b
      cases b with
      | nil => simp [PySem.W.alikeAll]
      | cons y ys =>
        rw [List.map_cons, List.map_cons, PySem.W.alikeAll, ih ys]
        rfl
  unfold tupI
  rw [PySem.W.alike]
  exact go a b
theorem shows_rows : ∀ l : List (List Int), PyData.canLayAll0 (l.map tupI) = true ∧ PyData.depthAll (l.map tupI) ≤ 1
  | [] => by
    rw [List.map_nil]
    unfold PyData.canLayAll0 PyData.depthAll
    exact ⟨rfl, by decide⟩
  | p :: l => by
    obtain ⟨h1, h2⟩ := shows_rows l
    rw [List.map_cons]
    unfold PyData.canLayAll0 PyData.depthAll
    rw [h1]
    refine ⟨?_, Nat.max_le.mpr ⟨?_, h2⟩⟩
    · unfold tupI PyData.canLay0
      rw [canLayAll0_ints]
      rfl
    · unfold tupI PyData.depth
      rw [depthAll_ints]
      decide
theorem shaped_rows (l : List (List Int)) : SeqAt.shaped (.tuple (l.map tupI)) = true := by
  obtain ⟨h1, h2⟩ := shows_rows l
  unfold SeqAt.shaped PyData.canLay0 PyData.depth
  rw [h1, decide_eq_true (by omega)]
  rfl
theorem chk_duv {k n : Nat} (h : chkW k n = true) : duv (k : Int) n 700 [-1] [] = some (isortL (leastB k n)) := eq_of_beq h

/-- lookups behind stores -/
theorem valE_any {κ β : Type} [DecidableEq κ] (k : κ) : ∀ kvs : List (κ × β), (kvs.any fun kv => decide (kv.1 = k)) = (valE kvs k).isSome
  | [] => rfl
  | p :: r => by
    rw [List.any_cons, valE_any k r]
    by_cases e : p.1 = k
    · simp [valE, List.find?_cons, e]
    · simp [valE, List.find?_cons, e]
theorem valE_new {κ β : Type} [DecidableEq κ] {kvs : List (κ × β)} {k : κ} (y : β) (h : valE kvs k = none) : putE kvs k y = kvs ++ [(k, y)] := by
  unfold putE
  rw [valE_any, h, if_neg (by simp)]
theorem valE_snoc {κ β : Type} [DecidableEq κ] (k j : κ) (y : β) : ∀ kvs : List (κ × β), valE kvs k = none → valE (kvs ++ [(k, y)]) j = if j = k then some y else valE kvs j
  | [], _ => by
    by_cases e : j = k
    · simp [valE, List.find?_cons, e]
    · simp [valE, List.find?_cons, e, Ne.symm e]
  | p :: r, h => by
    have hp : ¬ p.1 = k := fun e => by simp [valE, List.find?_cons, e] at h
    have hr : valE r k = none := by
      have : valE (p :: r) k = valE r k := by simp [valE, List.find?_cons, hp]
      rw [← this]; exact h
    have ih := valE_snoc k j y r hr
    rw [List.cons_append]
    by_cases e : p.1 = j
    · have hjk : ¬ j = k := fun z => hp (e.trans z)
      rw [if_neg hjk]
      simp [valE, List.find?_cons, e]
    · have a : valE (p :: (r ++ [(k, y)])) j = valE (r ++ [(k, y)]) j := by simp [valE, List.find?_cons, e]
      have b : valE (p :: r) j = valE r j := by simp [valE, List.find?_cons, e]
      rw [a, b, ih]
/-- windows as keys -/
def kK (v : List Int) : List Key := v.map Sum.inl
theorem kK_inj : ∀ {a b : List Int}, kK a = kK b → a = b
  | [], [], _ => rfl
  | [], _ :: _, h => by cases h
  | _ :: _, [], h => by cases h
  | x :: xs, y :: ys, h => by
    unfold kK at h
    rw [List.map_cons, List.map_cons, List.cons.injEq] at h
    rw [Sum.inl.inj h.1, kK_inj h.2]
theorem keysT_ints : ∀ v : List Int, keysT (v.map PyData.int) = some (kK v)
  | [] => rfl
  | x :: v => by
    rw [List.map_cons]
    unfold keysT
    rw [keysT_ints v]
    rfl
theorem keyT_tup {v : List Int} (h : v ≠ []) : keyT (.p (.tuple (v.map PyData.int))) = some (kK v) := by
  cases v with
  | nil => exact absurd rfl h
  | cons x v => exact keysT_ints (x :: v)

/-- things of any kind, looked at as rows -/
def numB : PyData → Bool
  | .int _ => true
  | _ => false
def sigB : PyData → Bool
  | .int i => decide (0 ≤ i) && decide (i < 600)
  | _ => false
def rowB : PyData → Bool
  | .tuple ds => decide (1 ≤ ds.length) && decide (ds.length ≤ 600) && ds.all sigB
  | _ => false
theorem getD_at {α : Type} (xs : List α) (i : Nat) (d : α) (h : i < xs.length) : xs.getD i d = xs[i] := by
  rw [List.getD_eq_getElem?_getD, List.getElem?_eq_getElem h]
  rfl
theorem rowB_tup (ds : List PyData) : rowB (.tuple ds) = (decide (1 ≤ ds.length) && decide (ds.length ≤ 600) && ds.all sigB) := rfl
def Rw (r : List Int) : Prop := 1 ≤ r.length ∧ r.length ≤ 600 ∧ ∀ x ∈ r, 0 ≤ x ∧ x < 600
theorem rw_all {r : List Int} (h : ∀ x ∈ r, 0 ≤ x ∧ x < 600) : (r.map PyData.int).all sigB = true := List.all_eq_true.mpr fun d hd => by
  obtain ⟨x, hx, rfl⟩ := List.mem_map.mp hd
  obtain ⟨h0, h1⟩ := h x hx
  show (decide (0 ≤ x) && decide (x < 600)) = true
  rw [decide_eq_true h0, decide_eq_true h1]
  rfl
theorem rowB_good {r : List Int} (h : Rw r) : rowB (tupI r) = true := by
  unfold tupI
  rw [rowB_tup, List.length_map, decide_eq_true h.1, decide_eq_true h.2.1, rw_all h.2.2]
  rfl
theorem rowB_bad {ds : List PyData} {d : PyData} (hd : d ∈ ds) (h : sigB d = false) : rowB (.tuple ds) = false := by
  have : ds.all sigB = false := by
    cases e : ds.all sigB
    · rfl
    · rw [List.all_eq_true.mp e d hd] at h
      cases h
  rw [rowB_tup, this, Bool.and_false]
theorem rowB_long {ds : List PyData} (h : 600 < ds.length) : rowB (.tuple ds) = false := by
  rw [rowB_tup, decide_eq_false (show ¬ ds.length ≤ 600 by omega), Bool.and_false, Bool.false_and]
theorem rep3_get {α : Type} (xs : List α) : ∀ (k n : Nat), n < xs.length * k → (rep3 xs (k : Int))[n]? = xs[n % xs.length]?
  | 0, n, h => by omega
  | k + 1, n, h => by
    have e : rep3 xs ((k + 1 : Nat) : Int) = xs ++ rep3 xs (k : Int) := by
      unfold rep3
      rw [Int.toNat_natCast, Int.toNat_natCast, List.replicate_succ, List.flatten_cons]
    rw [e]
    by_cases hn : n < xs.length
    · rw [List.getElem?_append_left hn, Nat.mod_eq_of_lt hn]
    · have hm : n % xs.length = (n - xs.length) % xs.length := Nat.mod_eq_sub_mod (by omega)
      rw [List.getElem?_append_right (by omega), rep3_get xs k (n - xs.length) (by rw [Nat.mul_succ] at h; omega), hm]
theorem mem_rep3 {α : Type} {x : α} {xs : List α} {k : Int} (h : x ∈ rep3 xs k) : x ∈ xs := by
  unfold rep3 at h
  obtain ⟨l, hl, hx⟩ := List.mem_flatten.mp h
  rw [(List.mem_replicate.mp hl).2] at hx
  exact hx
theorem cut3_seg {α : Type} (xs : List α) (a b : Nat) : cut3 xs (some (a : Int)) (some ((a + b : Nat) : Int)) = (xs.drop a).take b := by
  have h1 : ∀ n x : Nat, HT.sIx n x (some (a : Int)) = min a n := fun n x => by
    unfold HT.sIx
    simp only
    first | omega | (split <;> omega)
  have h2 : ∀ n x : Nat, HT.sIx n x (some ((a + b : Nat) : Int)) = min (a + b) n := fun n x => by
    unfold HT.sIx
    simp only
    first | omega | (split <;> omega)
  unfold cut3
  rw [h1, h2]
  apply List.ext_getElem?
  intro i
  rw [List.getElem?_take, List.getElem?_take, List.getElem?_drop, List.getElem?_drop]
  by_cases h : i < b
  · rw [if_pos h]
    by_cases h' : a + i < xs.length
    · rw [if_pos (by omega), show min a xs.length = a by omega]
    · rw [List.getElem?_eq_none (by omega : xs.length ≤ a + i)]
      split
      · exact List.getElem?_eq_none (by omega)
      · rfl
  · rw [if_neg h, if_neg (by omega)]
theorem cut3_fst {α : Type} (xs : List α) (a : Nat) : cut3 xs none (some (a : Int)) = xs.take a := by
  have h0 : HT.sIx xs.length 0 none = 0 := rfl
  have h1 : HT.sIx xs.length xs.length (some (a : Int)) = min a xs.length := by
    unfold HT.sIx
    simp only
    first | omega | (split <;> omega)
  unfold cut3
  rw [h0, h1, List.drop_zero, Nat.sub_zero]
  apply List.ext_getElem?
  intro i
  rw [List.getElem?_take, List.getElem?_take]
  by_cases h : i < a
  · rw [if_pos h]
    by_cases h' : i < xs.length
    · rw [if_pos (by omega)]
    · rw [if_neg (by omega), List.getElem?_eq_none (by omega)]
  · rw [if_neg h, if_neg (by omega)]
/-- the n numbers of a round row from a place on -/
def wdAt (r : List Int) (n at_ : Nat) : List Int := (List.range n).map fun k => r.getD ((at_ + k) % r.length) 0
theorem wdAt_seg {r : List Int} (h : 0 < r.length) {n a m : Nat} (hm : a + n ≤ r.length * m) : ((rep3 r (m : Int)).drop a).take n = wdAt r n a := by
  have hl : (rep3 r (m : Int)).length = r.length * m := by rw [rep3_len, Int.toNat_natCast]
  apply List.ext_getElem?
  intro i
  unfold wdAt
  rw [List.getElem?_take, List.getElem?_drop, List.getElem?_map]
  by_cases hi : i < n
  · rw [if_pos hi, rep3_get r m (a + i) (by omega), List.getElem?_range hi, List.getElem?_eq_getElem (Nat.mod_lt _ h)]
    show some _ = some (r.getD _ 0)
    rw [getD_at _ _ _ (Nat.mod_lt _ h)]
  · rw [if_neg hi, List.getElem?_eq_none (by rw [List.length_range]; omega)]
    rfl
theorem rep3_map {α β : Type} (f : α → β) (xs : List α) (k : Int) : rep3 (xs.map f) k = (rep3 xs k).map f := by
  unfold rep3
  rw [List.map_flatten, List.map_replicate]
theorem shaped_row (r : List Int) : SeqAt.shaped (tupI r) = true := shaped_tints r
theorem wdAt_one (r : List Int) (n a : Nat) : wdAt r (n + 1) a = wdAt r n a ++ [r.getD ((a + n) % r.length) 0] := by
  unfold wdAt
  rw [List.range_succ, List.map_append]
  rfl
theorem row_seg {r : List Int} (h : 0 < r.length) (n : Nat) : (tupI (wdAt r n 0)) = .tuple (cut3 (rep3 (r.map PyData.int) ((n : Nat) : Int)) none (some ((n : Nat) : Int))) := by
  rw [cut3_fst, rep3_map, ← List.map_take, ← wdAt_seg h (m := n) (by rw [Nat.zero_add]; exact Nat.le_mul_of_pos_left n h), List.drop_zero]
  rfl
theorem wdAt_ln (r : List Int) (n a : Nat) : (wdAt r n a).length = n := by
  unfold wdAt
  rw [List.length_map, List.length_range]
theorem wdAt_rw {r : List Int} (hr : Rw r) {n a : Nat} (h1 : 1 ≤ n) (h2 : n ≤ 600) : Rw (wdAt r n a) := by
  refine ⟨by rw [wdAt_ln]; exact h1, by rw [wdAt_ln]; exact h2, fun x hx => ?_⟩
  obtain ⟨k, hk, rfl⟩ := List.mem_map.mp hx
  have hl : (a + k) % r.length < r.length := Nat.mod_lt _ hr.1
  rw [getD_at _ _ _ hl]
  exact hr.2.2 _ (List.getElem_mem hl)
theorem due_seg {r : List Int} (hr : Rw r) {n a : Nat} (hn : n ≤ 40) (ha : a < r.length) : PyData.tuple (cut3 (rep3 (r.map PyData.int) (2 + 40 / (r.length : Int))) (some (a : Int)) (some ((a : Int) + (n : Int)))) = tupI (wdAt r n a) := by
  have h0 : 0 < r.length := hr.1
  have e : (2 : Int) + 40 / (r.length : Int) = ((2 + 40 / r.length : Nat) : Int) := by
    rw [Int.natCast_add, Int.natCast_ediv]
    rfl
  have hm : a + n ≤ r.length * (2 + 40 / r.length) := by
    have h1 := Nat.div_add_mod 40 r.length
    have h2 := Nat.mod_lt 40 h0
    rw [Nat.mul_add]
    omega
  rw [e, rep3_map, ← Int.natCast_add, cut3_map, cut3_seg, wdAt_seg h0 hm]
  rfl
theorem bad_mid {A B : List PyData} {z : PyData} (h : sigB z = false) : rowB (.tuple (A ++ [z] ++ B)) = false := rowB_bad (d := z) (by simp) h
theorem bad_fst {A : List PyData} {z : PyData} (h : sigB z = false) : rowB (.tuple (z :: A)) = false := rowB_bad (d := z) (by simp) h
theorem bad_end {A : List PyData} {z : PyData} (h : sigB z = false) : rowB (.tuple (A ++ [z])) = false := rowB_bad (d := z) (by simp) h
theorem nr_nil : ∀ x ∈ ([] : List PyData), rowB x = false := by simp
theorem nr_cons {a : PyData} {L : List PyData} (h1 : rowB a = false) (h2 : ∀ x ∈ L, rowB x = false) : ∀ x ∈ a :: L, rowB x = false := fun x hx => (List.mem_cons.mp hx).elim (fun e => e ▸ h1) (h2 x)

/-- least of a list of data that stand by codes -/
theorem minD_code {α : Type} (it : α → PyData) (cd : α → List Int) (h : ∀ a b, PySem.W.dataLt (it a) (it b) = lexI (cd a) (cd b)) : ∀ (t : List α) (b : α), ∃ m ∈ b :: t, PySem.W.minD (it b) (t.map it) = it m ∧ ∀ y ∈ b :: t, lexI (cd y) (cd m) = false
  | [], b => ⟨b, List.mem_cons_self, rfl, fun y hy => by rw [List.mem_singleton.mp hy]; exact lexI_irr _⟩
  | q :: t, b => by
    cases hq : lexI (cd q) (cd b) with
    | true =>
      obtain ⟨m, h1, h2, h3⟩ := minD_code it cd h t q
      refine ⟨m, List.mem_cons_of_mem _ h1, ?_, fun y hy => ?_⟩
      · unfold PySem.W.minD at h2 ⊢
        rw [List.map_cons, List.foldl_cons, h, hq, if_pos rfl]
        exact h2
      · rcases List.mem_cons.mp hy with rfl | hy
        · cases hm : lexI (cd y) (cd m) with
          | false => rfl
          | true =>
            have := lexI_tr hq hm
            rw [h3 q List.mem_cons_self] at this
            cases this
        · exact h3 y hy
    | false =>
      obtain ⟨m, h1, h2, h3⟩ := minD_code it cd h t b
      refine ⟨m, ?_, ?_, fun y hy => ?_⟩
      · rcases List.mem_cons.mp h1 with h1 | h1
        · rw [h1]; exact List.mem_cons_self
        · exact List.mem_cons_of_mem _ (List.mem_cons_of_mem _ h1)
      · unfold PySem.W.minD at h2 ⊢
        rw [List.map_cons, List.foldl_cons, h, hq, if_neg (by simp)]
        exact h2
      · rcases List.mem_cons.mp hy with hy | hy
        · rw [hy]; exact h3 _ List.mem_cons_self
        · rcases List.mem_cons.mp hy with hy | hy
          · rw [hy]
            have hbm := h3 b List.mem_cons_self
            cases hm : lexI (cd q) (cd m) with
            | false => rfl
            | true =>
              by_cases e : cd m = cd b
              · rw [e, hq] at hm
                cases hm
              · cases hmb : lexI (cd m) (cd b) with
                | true =>
                  have := lexI_tr hm hmb
                  rw [hq] at this
                  cases this
                | false => exact absurd (lexI_tot hmb hbm) e
          · exact h3 y (List.mem_cons_of_mem _ hy)
/-! ### a drawn walk that goes by each word just once: plain part -/
def hdN (k E v c : Nat) : Nat := (v * k + c) % E
def goN (k E v : Nat) (r : List Nat) : Nat := r.foldl (fun v c => hdN k E v c) v
def codesN (k E : Nat) : Nat → List Nat → List Nat
  | _, [] => []
  | v, c :: r => (v * k + c) :: codesN k E (hdN k E v c) r
def pileN (k E : Nat) : Nat → List Nat → List (Nat × Nat)
  | _, [] => []
  | v, c :: r => (hdN k E v c, c) :: pileN k E (hdN k E v c) r
theorem goN_snoc (k E v : Nat) (r : List Nat) (c : Nat) : goN k E v (r ++ [c]) = hdN k E (goN k E v r) c := by
  unfold goN
  rw [List.foldl_append]
  rfl
theorem codesN_snoc (k E : Nat) (c : Nat) : ∀ (r : List Nat) (v : Nat), codesN k E v (r ++ [c]) = codesN k E v r ++ [goN k E v r * k + c]
  | [], _ => rfl
  | d :: r, v => by
    show _ :: codesN k E (hdN k E v d) (r ++ [c]) = _ :: _
    rw [codesN_snoc k E c r]
    rfl
theorem pileN_snoc (k E : Nat) (c : Nat) : ∀ (r : List Nat) (v : Nat), pileN k E v (r ++ [c]) = pileN k E v r ++ [(hdN k E (goN k E v r) c, c)]
  | [], _ => rfl
  | d :: r, v => by
    show _ :: pileN k E (hdN k E v d) (r ++ [c]) = _ :: _
    rw [pileN_snoc k E c r]
    rfl
theorem codesN_len (k E : Nat) : ∀ (r : List Nat) (v : Nat), (codesN k E v r).length = r.length
  | [], _ => rfl
  | _ :: r, _ => congrArg (· + 1) (codesN_len k E r _)
theorem pileN_len (k E : Nat) : ∀ (r : List Nat) (v : Nat), (pileN k E v r).length = r.length
  | [], _ => rfl
  | _ :: r, _ => congrArg (· + 1) (pileN_len k E r _)
theorem goN_lt {k E : Nat} (h : 0 < E) {v : Nat} (hv : v < E) (r : List Nat) : goN k E v r < E := by
  rcases List.eq_nil_or_concat r with rfl | ⟨r, c, rfl⟩
  · exact hv
  · rw [List.concat_eq_append, goN_snoc]
    exact Nat.mod_lt _ h
/-- how many of what is left lead to x -/
def inF (k E x : Nat) : Nat → List (List Nat) → Nat
  | _, [] => 0
  | v, l :: L => l.countP (fun c => hdN k E v c == x) + inF k E x (v + 1) L
theorem inF_set (k E x : Nat) : ∀ (L : List (List Nat)) (v t : Nat) (l l' : List Nat), L[t]? = some l → inF k E x v (L.set t l') + l.countP (fun c => hdN k E (v + t) c == x) = inF k E x v L + l'.countP (fun c => hdN k E (v + t) c == x)
  | [], _, _, _, _, h => by simp at h
  | a :: L, v, 0, l, l', h => by
    simp at h
    subst h
    show l'.countP _ + inF k E x (v + 1) L + _ = _ + inF k E x (v + 1) L + _
    simp only [Nat.add_zero]
    omega
  | a :: L, v, t + 1, l, l', h => by
    have := inF_set k E x L (v + 1) t l l' (by simpa using h)
    rw [show v + (t + 1) = v + 1 + t by omega]
    show a.countP _ + inF k E x (v + 1) (L.set t l') + _ = a.countP _ + inF k E x (v + 1) L + _
    omega
theorem inF_rep (k E x : Nat) : ∀ (m v : Nat), inF k E x v (List.replicate m (List.range k)) = (List.range (m * k)).countP (fun y => (v * k + y) % E == x)
  | 0, _ => by simp [inF]
  | m + 1, v => by
    rw [List.replicate_succ]
    show (List.range k).countP _ + inF k E x (v + 1) _ = _
    rw [inF_rep k E x m (v + 1), show (m + 1) * k = k + m * k by rw [Nat.add_mul, Nat.one_mul, Nat.add_comm], List.range_add, List.countP_append, List.countP_map]
    have e : ((fun y => (v * k + y) % E == x) ∘ fun y => k + y) = fun y => ((v + 1) * k + y) % E == x := by
      funext y
      show ((v * k + (k + y)) % E == x) = _
      rw [Nat.add_mul, Nat.one_mul, Nat.add_assoc]
    rw [e]
    rfl
theorem cnt_one {x : Nat} : ∀ {l : List Nat}, l.Nodup → x ∈ l → l.count x = 1
  | y :: l, nd, h => by
    obtain ⟨h1, h2⟩ := List.nodup_cons.mp nd
    rw [List.count_cons]
    rcases List.mem_cons.mp h with rfl | h
    · rw [List.count_eq_zero.mpr h1]
      simp
    · have : y ≠ x := fun z => h1 (z ▸ h)
      rw [cnt_one h2 h, if_neg (by simpa using this)]
theorem cons_erase {α : Type} : ∀ {l : List α} {i : Nat} (h : i < l.length), (l[i] :: l.eraseIdx i).Perm l
  | a :: l, 0, _ => List.Perm.refl _
  | a :: l, i + 1, h => by
    have h' : i < l.length := by simpa using h
    show (l[i] :: a :: l.eraseIdx i).Perm (a :: l)
    exact (List.Perm.swap a _ _).trans ((cons_erase h').cons a)
theorem count_mod {E x : Nat} (h : x < E) : ∀ k : Nat, (List.range (k * E)).countP (fun y => y % E == x) = k
  | 0 => by simp
  | k + 1 => by
    rw [Nat.add_mul, Nat.one_mul, List.range_add, List.countP_append, count_mod h k, List.countP_map]
    have e : (List.range E).countP ((fun y => y % E == x) ∘ fun y => k * E + y) = (List.range E).countP (fun y => y == x) := by
      refine List.countP_congr fun y hy => ?_
      have hy := List.mem_range.mp hy
      show ((k * E + y) % E == x) = true ↔ _
      rw [Nat.mul_add_mod_of_lt' hy]
    rw [e]
    have : (List.range E).countP (fun y => y == x) = (List.range E).count x := rfl
    rw [this, cnt_one List.nodup_range (List.mem_range.mpr h)]
where
  Nat.mul_add_mod_of_lt' {a b c : Nat} (h : c < b) : (a * b + c) % b = c := by
    rw [Nat.mul_comm, Nat.mul_add_mod, Nat.mod_eq_of_lt h]
def b2N (p : Prop) [Decidable p] : Nat := if p then 1 else 0
/-- what the walk keeps: what is left behind each end, the numbers of the pile, those told (the last first), the end at which these begin -/
structure Eul (k E : Nat) (L : List (List Nat)) (ps os : List Nat) (a : Nat) : Prop where
  k0 : 0 < k
  e0 : 0 < E
  len : L.length = E
  sub : ∀ (v : Nat) (l : List Nat), L[v]? = some l → l.Nodup ∧ ∀ c ∈ l, c < k
  small : ∀ c ∈ ps ++ os, c < k
  al : a < E
  nd : (codesN k E 0 ps ++ codesN k E a os).Nodup
  mem : ∀ (v : Nat) (l : List Nat) (c : Nat), L[v]? = some l → c < k → (v * k + c ∈ codesN k E 0 ps ++ codesN k E a os ↔ c ∉ l)
  to0 : goN k E a os = 0
  bal : ∀ (x : Nat) (l : List Nat), L[x]? = some l → l.length + b2N (x = a) = inF k E x 0 L + b2N (x = goN k E 0 ps)
  tch : ∀ (v : Nat) (l : List Nat) (c y : Nat), L[v]? = some l → c < k → c ∉ l → hdN k E v c = y → y = 0 ∨ y ∈ (pileN k E 0 ps).map (·.1) ∨ L[y]? = some []
theorem Eul.start {k E : Nat} (k0 : 0 < k) (e0 : 0 < E) : Eul k E (List.replicate E (List.range k)) [] [] 0 := by
  have g : ∀ v l, (List.replicate E (List.range k))[v]? = some l → v < E ∧ l = List.range k := fun v l h => by
    obtain ⟨h1, h2⟩ := List.getElem?_eq_some_iff.mp h
    rw [List.length_replicate] at h1
    rw [List.getElem_replicate] at h2
    exact ⟨h1, h2.symm⟩
  refine ⟨k0, e0, List.length_replicate, fun v l h => ?_, by simp, e0, by simp [codesN], fun v l c h hc => ?_, rfl, fun x l h => ?_, fun v l c y h hc hn => ?_⟩
  · obtain ⟨_, rfl⟩ := g v l h
    exact ⟨List.nodup_range, fun c hc => List.mem_range.mp hc⟩
  · obtain ⟨_, rfl⟩ := g v l h
    simp [codesN, hc]
  · obtain ⟨hx, rfl⟩ := g x l h
    have e : (List.range (E * k)).countP (fun y => (0 * k + y) % E == x) = k := by
      have := count_mod hx k
      rw [Nat.mul_comm] at this
      simpa using this
    rw [inF_rep, List.length_range, e]
    rfl
  · obtain ⟨_, rfl⟩ := g v l h
    exact absurd (List.mem_range.mpr hc) hn
theorem erase_mem {l : List Nat} (nd : l.Nodup) {i : Nat} (h : i < l.length) (c : Nat) : c ∈ l.eraseIdx i ↔ c ∈ l ∧ c ≠ l[i] := by
  have p := cons_erase h
  have nd' := (p.nodup_iff).mpr nd
  rw [List.nodup_cons] at nd'
  constructor
  · intro hc
    exact ⟨p.mem_iff.mp (List.mem_cons_of_mem _ hc), fun z => nd'.1 (z ▸ hc)⟩
  · rintro ⟨hc, hn⟩
    exact (List.mem_cons.mp (p.mem_iff.mpr hc)).resolve_left hn
theorem code_inj {k v w c d : Nat} (hc : c < k) (hd : d < k) (e : v * k + c = w * k + d) : v = w ∧ c = d := by
  have h0 : 0 < k := by omega
  have h1 : (v * k + c) / k = v := by rw [Nat.mul_comm, Nat.mul_add_div h0, Nat.div_eq_of_lt hc, Nat.add_zero]
  have h2 : (w * k + d) / k = w := by rw [Nat.mul_comm, Nat.mul_add_div h0, Nat.div_eq_of_lt hd, Nat.add_zero]
  have h3 : v = w := by rw [← h1, ← h2, e]
  subst h3
  exact ⟨rfl, by omega⟩
theorem Eul.top {k E : Nat} {L : List (List Nat)} {ps os : List Nat} {a : Nat} (h : Eul k E L ps os a) : ∃ l, L[goN k E 0 ps]? = some l :=
  ⟨_, List.getElem?_eq_getElem (by rw [h.len]; exact goN_lt h.e0 h.e0 ps)⟩
theorem Eul.push {k E : Nat} {L : List (List Nat)} {ps os : List Nat} {a : Nat} (h : Eul k E L ps os a) {l : List Nat} (hl : L[goN k E 0 ps]? = some l) {i : Nat} (hi : i < l.length) :
    Eul k E (L.set (goN k E 0 ps) (l.eraseIdx i)) (ps ++ [l[i]]) os a := by
  have ht := goN_lt (k := k) h.e0 h.e0 ps
  obtain ⟨nd, lt⟩ := h.sub _ _ hl
  have hck : l[i] < k := lt _ (List.getElem_mem hi)
  generalize htt : goN k E 0 ps = t at *
  have hset : ∀ v l', (L.set t (l.eraseIdx i))[v]? = some l' → (v = t ∧ l' = l.eraseIdx i) ∨ (v ≠ t ∧ L[v]? = some l') := fun v l' e => by
    by_cases hv : v = t
    · subst hv
      rw [List.getElem?_set_self (by rw [h.len]; exact ht)] at e
      exact .inl ⟨rfl, (Option.some.inj e).symm⟩
    · rw [List.getElem?_set_ne (Ne.symm hv)] at e
      exact .inr ⟨hv, e⟩
  have perm := cons_erase hi
  refine ⟨h.k0, h.e0, by rw [List.length_set]; exact h.len, fun v l' e => ?_, fun c hc => ?_, h.al, ?_, fun v l' c e hc => ?_, h.to0, fun x l' e => ?_, fun v l' c y e hc hn hy => ?_⟩
  · rcases hset v l' e with ⟨rfl, rfl⟩ | ⟨_, e⟩
    · exact ⟨nd.sublist (List.eraseIdx_sublist ..), fun c hc => lt c (List.mem_of_mem_eraseIdx hc)⟩
    · exact h.sub v l' e
  · simp only [List.mem_append, List.mem_singleton] at hc
    rcases hc with (hc | rfl) | hc
    · exact h.small c (List.mem_append_left _ hc)
    · exact hck
    · exact h.small c (List.mem_append_right _ hc)
  · rw [codesN_snoc, htt]
    have hno : ¬ t * k + l[i] ∈ codesN k E 0 ps ++ codesN k E a os := fun z => (h.mem t l _ hl hck).mp z (List.getElem_mem hi)
    have hp : (codesN k E 0 ps ++ [t * k + l[i]] ++ codesN k E a os).Perm ((t * k + l[i]) :: (codesN k E 0 ps ++ codesN k E a os)) := by
      rw [List.append_assoc]
      exact List.perm_middle
    exact hp.nodup_iff.mpr (List.nodup_cons.mpr ⟨hno, h.nd⟩)
  · rw [codesN_snoc, htt]
    have key : v * k + c ∈ codesN k E 0 ps ++ [t * k + l[i]] ++ codesN k E a os ↔ v * k + c ∈ codesN k E 0 ps ++ codesN k E a os ∨ (v = t ∧ c = l[i]) := by
      simp only [List.mem_append, List.mem_singleton]
      constructor
      · rintro ((z | z) | z)
        · exact .inl (.inl z)
        · exact .inr (code_inj hc hck z)
        · exact .inl (.inr z)
      · rintro ((z | z) | ⟨rfl, rfl⟩)
        · exact .inl (.inl z)
        · exact .inr z
        · exact .inl (.inr rfl)
    rw [key]
    rcases hset v l' e with ⟨rfl, rfl⟩ | ⟨hv, e⟩
    · rw [h.mem v l c hl hc, erase_mem nd hi]
      constructor
      · rintro (z | ⟨_, z⟩) ⟨z1, z2⟩
        · exact z z1
        · exact z2 z
      · intro z
        by_cases hcl : c ∈ l
        · exact .inr ⟨rfl, Classical.byContradiction fun z2 => z ⟨hcl, z2⟩⟩
        · exact .inl hcl
    · rw [h.mem v l' c e hc]
      exact ⟨fun z => z.resolve_right fun w => hv w.1, .inl⟩
  · rw [goN_snoc, htt]
    have hin := inF_set k E x L 0 t l (l.eraseIdx i) hl
    rw [Nat.zero_add] at hin
    have hcp : l.countP (fun c => hdN k E t c == x) = (l.eraseIdx i).countP (fun c => hdN k E t c == x) + b2N (x = hdN k E t l[i]) := by
      rw [← perm.countP_eq, List.countP_cons]
      congr 1
      unfold b2N
      by_cases e : x = hdN k E t l[i]
      · rw [if_pos e, if_pos (by rw [e]; exact beq_self_eq_true _)]
      · rw [if_neg e, if_neg (by simpa using fun z => e z.symm)]
    rcases hset x l' e with ⟨rfl, rfl⟩ | ⟨hx, e⟩
    · have hb := h.bal x l hl
      rw [htt] at hb
      have h1 : b2N (x = x) = 1 := if_pos rfl
      have hle := perm.length_eq
      rw [List.length_cons] at hle
      omega
    · have hb := h.bal x l' e
      rw [htt] at hb
      have h1 : b2N (x = t) = 0 := if_neg hx
      omega
  · have fin : ∀ (v : Nat) (m : List Nat), L[v]? = some m → c ∉ m → hdN k E v c = y → y = 0 ∨ y ∈ (pileN k E 0 (ps ++ [l[i]])).map (·.1) ∨ (L.set t (l.eraseIdx i))[y]? = some [] := fun v m e1 e2 e3 => by
      rcases h.tch v m c y e1 hc e2 e3 with z | z | z
      · exact .inl z
      · refine .inr (.inl ?_)
        rw [pileN_snoc, List.map_append]
        exact List.mem_append_left _ z
      · refine .inr (.inr ?_)
        have : y ≠ t := fun w => by
          subst w
          rw [hl] at z
          cases z
          exact absurd hi (Nat.not_lt_zero _)
        rw [List.getElem?_set_ne (Ne.symm this)]
        exact z
    rcases hset v l' e with ⟨rfl, rfl⟩ | ⟨hv, e⟩
    · by_cases hcl : c ∈ l
      · have hci : c = l[i] := Classical.byContradiction fun z => hn ((erase_mem nd hi c).mpr ⟨hcl, z⟩)
        refine .inr (.inl ?_)
        rw [pileN_snoc, List.map_append, htt, ← hci, hy]
        exact List.mem_append_right _ List.mem_cons_self
      · exact fin v l hl hcl hy
    · exact fin v l' e hn hy
theorem Eul.pop {k E : Nat} {L : List (List Nat)} {ps os : List Nat} {c a : Nat} (h : Eul k E L (ps ++ [c]) os a) (hl : L[goN k E 0 (ps ++ [c])]? = some []) :
    Eul k E L ps (c :: os) (goN k E 0 ps) := by
  have ht := goN_lt (k := k) h.e0 h.e0 ps
  have hb := h.bal _ _ hl
  have h1 : b2N (goN k E 0 (ps ++ [c]) = goN k E 0 (ps ++ [c])) = 1 := if_pos rfl
  have ha : goN k E 0 (ps ++ [c]) = a := by
    refine Classical.byContradiction fun z => ?_
    have h0 : b2N (goN k E 0 (ps ++ [c]) = a) = 0 := if_neg z
    rw [h0, h1] at hb
    simp at hb
  have ha' : hdN k E (goN k E 0 ps) c = a := by rw [← goN_snoc]; exact ha
  have hcodes : codesN k E 0 ps ++ codesN k E (goN k E 0 ps) (c :: os) = codesN k E 0 (ps ++ [c]) ++ codesN k E a os := by
    rw [codesN_snoc, List.append_assoc, ← ha']
    rfl
  refine ⟨h.k0, h.e0, h.len, h.sub, fun d hd => h.small d (by simpa using hd), ht, ?_, fun v l d e hd => ?_, ?_, fun x l e => ?_, fun v l d y e hd hn hy => ?_⟩
  · rw [hcodes]
    exact h.nd
  · rw [hcodes]
    exact h.mem v l d e hd
  · show goN k E (hdN k E (goN k E 0 ps) c) os = 0
    rw [ha']
    exact h.to0
  · have := h.bal x l e
    rw [ha] at this
    omega
  · rcases h.tch v l d y e hd hn hy with z | z | z
    · exact .inl z
    · rw [pileN_snoc, List.map_append] at z
      rcases List.mem_append.mp z with z | z
      · exact .inr (.inl z)
      · refine .inr (.inr ?_)
        have : y = goN k E 0 (ps ++ [c]) := by
          rw [goN_snoc]
          simpa using z
        rw [this]
        exact hl
    · exact .inr (.inr z)
/-- at the end: a round walk that goes by each word once -/
structure RndN (k E : Nat) (r : List Nat) : Prop where
  k0 : 0 < k
  e0 : 0 < E
  small : ∀ c ∈ r, c < k
  to0 : goN k E 0 r = 0
  nd : (codesN k E 0 r).Nodup
  all : ∀ y, y < E * k → y ∈ codesN k E 0 r
theorem Eul.over {k m : Nat} {L : List (List Nat)} {os : List Nat} {a : Nat} (h : Eul k (k ^ m) L [] os a) (hl : L[0]? = some []) : RndN k (k ^ m) os := by
  have hb := h.bal _ _ hl
  have h1 : b2N (0 = goN k (k ^ m) 0 []) = 1 := if_pos rfl
  have ha : 0 = a := by
    refine Classical.byContradiction fun z => ?_
    have h0 : b2N (0 = a) = 0 := if_neg z
    rw [h0, h1] at hb
    simp at hb
  subst ha
  have every : ∀ N x, x ≤ N → x < k ^ m → L[x]? = some [] := by
    intro N
    induction N with
    | zero =>
      intro x hx _
      rw [show x = 0 by omega]
      exact hl
    | succ N ih =>
      intro x hx hxe
      by_cases hk : k = 1
      · subst hk
        rw [Nat.one_pow] at hxe
        rw [show x = 0 by omega]
        exact hl
      · by_cases hx0 : x = 0
        · rw [hx0]
          exact hl
        · have k0 := h.k0
          have hdiv : x / k < x := Nat.div_lt_self (by omega) (by omega)
          have hp := ih (x / k) (by omega) (by omega)
          have hc : x % k < k := Nat.mod_lt _ k0
          have hy : hdN k (k ^ m) (x / k) (x % k) = x := by
            unfold hdN
            rw [Nat.mul_comm, Nat.div_add_mod, Nat.mod_eq_of_lt hxe]
          rcases h.tch _ _ _ x hp hc (by simp) hy with z | z | z
          · exact absurd z hx0
          · simp [pileN] at z
          · exact z
  refine ⟨h.k0, h.e0, fun c hc => h.small c (by simpa using hc), h.to0, by simpa [codesN] using h.nd, fun y hy => ?_⟩
  have k0 := h.k0
  have hv : y / k < k ^ m := Nat.div_lt_of_lt_mul (by rw [Nat.mul_comm]; exact hy)
  have := (h.mem _ _ (y % k) (every _ _ (Nat.le_refl _) hv) (Nat.mod_lt _ k0)).mpr (by simp)
  rw [Nat.mul_comm, Nat.div_add_mod] at this
  simpa [codesN] using this
theorem codesN_lt {k E : Nat} (e0 : 0 < E) : ∀ {r : List Nat} {v : Nat}, v < E → (∀ c ∈ r, c < k) → ∀ y ∈ codesN k E v r, y < E * k
  | [], _, _, _, _, h => nomatch h
  | c :: r, v, hv, hr, y, h => by
    rcases List.mem_cons.mp h with rfl | h
    · have hc := hr c List.mem_cons_self
      have := Nat.mul_le_mul_right k (show v + 1 ≤ E by omega)
      rw [Nat.add_mul, Nat.one_mul] at this
      omega
    · exact codesN_lt e0 (Nat.mod_lt _ e0) (fun c hc => hr c (List.mem_cons_of_mem _ hc)) y h
theorem RndN.len {k E : Nat} {r : List Nat} (h : RndN k E r) : r.length = E * k := by
  have p : (codesN k E 0 r).Perm (List.range (E * k)) := (List.perm_ext_iff_of_nodup h.nd List.nodup_range).mpr fun y => ⟨fun hy => List.mem_range.mpr (codesN_lt h.e0 h.e0 h.small y hy), fun hy => h.all y (List.mem_range.mp hy)⟩
  rw [← codesN_len k E r 0, p.length_eq, List.length_range]
/-! words of a round walk -/
def cS (r : List Nat) (j : Nat) : Nat := r.getD (j % r.length) 0
def vS (k E : Nat) (r : List Nat) : Nat → Nat
  | 0 => 0
  | j + 1 => hdN k E (vS k E r j) (cS r j)
def valS (k : Nat) (r : List Nat) (j : Nat) : Nat → Nat
  | 0 => 0
  | m + 1 => valS k r j m * k + cS r (j + m)
theorem vS_take (k E : Nat) (r : List Nat) : ∀ j, j ≤ r.length → vS k E r j = goN k E 0 (r.take j)
  | 0, _ => by simp [vS, goN]
  | j + 1, h => by
    have hj : j < r.length := by omega
    rw [List.take_succ_eq_append_getElem hj, goN_snoc, ← vS_take k E r j (by omega)]
    show hdN k E (vS k E r j) (cS r j) = _
    congr 1
    unfold cS
    rw [Nat.mod_eq_of_lt hj, List.getD_eq_getElem?_getD, List.getElem?_eq_getElem hj]
    rfl
theorem codes_at (k E : Nat) : ∀ (r : List Nat) (v j : Nat) (h : j < r.length), (codesN k E v r)[j]? = some (goN k E v (r.take j) * k + r[j])
  | c :: r, v, 0, _ => rfl
  | c :: r, v, j + 1, h => by
    have := codes_at k E r (hdN k E v c) j (by simpa using h)
    rw [show codesN k E v (c :: r) = (v * k + c) :: codesN k E (hdN k E v c) r from rfl, List.getElem?_cons_succ, this]
    rfl
theorem vS_per {k E : Nat} {r : List Nat} (h0 : 0 < r.length) (h : goN k E 0 r = 0) : ∀ j, vS k E r (j + r.length) = vS k E r j
  | 0 => by
    rw [Nat.zero_add, vS_take k E r _ (Nat.le_refl _), List.take_length, h]
    rfl
  | j + 1 => by
    rw [show j + 1 + r.length = (j + r.length) + 1 by omega]
    show hdN k E (vS k E r (j + r.length)) (cS r (j + r.length)) = hdN k E (vS k E r j) (cS r j)
    rw [vS_per h0 h j]
    unfold cS
    rw [Nat.add_mod_right]
theorem vS_mod {k E : Nat} {r : List Nat} (h0 : 0 < r.length) (h : goN k E 0 r = 0) (j : Nat) : vS k E r j = vS k E r (j % r.length) := by
  have : ∀ q i, vS k E r (i + r.length * q) = vS k E r i := by
    intro q
    induction q with
    | zero => intro i; rfl
    | succ q ih =>
      intro i
      rw [Nat.mul_succ, ← Nat.add_assoc, vS_per h0 h, ih]
  have e := this (j / r.length) (j % r.length)
  rw [Nat.mod_add_div] at e
  exact e
theorem code_S {k E : Nat} {r : List Nat} (h0 : 0 < r.length) (h : goN k E 0 r = 0) (j : Nat) : (codesN k E 0 r)[j % r.length]? = some (vS k E r j * k + cS r j) := by
  have hj := Nat.mod_lt j h0
  rw [codes_at k E r 0 _ hj, ← vS_take k E r _ (Nat.le_of_lt hj), ← vS_mod h0 h]
  congr 2
  unfold cS
  rw [List.getD_eq_getElem?_getD, List.getElem?_eq_getElem hj]
  rfl
theorem vS_val (k E : Nat) (e0 : 0 < E) (r : List Nat) (j : Nat) : ∀ m, vS k E r (j + m) % E = (vS k E r j * k ^ m + valS k r j m) % E
  | 0 => by simp [valS]
  | m + 1 => by
    show hdN k E (vS k E r (j + m)) (cS r (j + m)) % E = (vS k E r j * k ^ (m + 1) + (valS k r j m * k + cS r (j + m))) % E
    unfold hdN
    rw [Nat.mod_mod, Nat.add_mod, Nat.mul_mod, vS_val k E e0 r j m, ← Nat.mul_mod, ← Nat.add_mod]
    congr 1
    rw [Nat.add_mul, Nat.pow_succ, Nat.mul_assoc, Nat.add_assoc]
theorem valS_lt {k : Nat} {r : List Nat} (k0 : 0 < k) (hr : ∀ c ∈ r, c < k) (j : Nat) : ∀ m, valS k r j m < k ^ m
  | 0 => by simp [valS]
  | m + 1 => by
    have h1 := valS_lt k0 hr j m
    have h2 : cS r (j + m) < k := by
      unfold cS
      rw [List.getD_eq_getElem?_getD]
      cases e : r[(j + m) % r.length]? with
      | none => exact k0
      | some c => exact hr c (List.mem_of_getElem? e)
    have := Nat.mul_le_mul_right k (show valS k r j m + 1 ≤ k ^ m by omega)
    rw [Nat.add_mul, Nat.one_mul, ← Nat.pow_succ] at this
    show valS k r j m * k + cS r (j + m) < k ^ m.succ
    omega
theorem vS_lt {k E : Nat} (e0 : 0 < E) (r : List Nat) : ∀ j, vS k E r j < E
  | 0 => e0
  | _ + 1 => Nat.mod_lt _ e0
theorem RndN.code {k m : Nat} {r : List Nat} (h : RndN k (k ^ m) r) (j : Nat) : (codesN k (k ^ m) 0 r)[(j + m) % r.length]? = some (valS k r j (m + 1)) := by
  have h0 : 0 < r.length := by
    rw [h.len]
    exact Nat.mul_pos h.e0 h.k0
  rw [code_S h0 h.to0]
  have e := vS_val k (k ^ m) h.e0 r j m
  rw [Nat.mod_eq_of_lt (vS_lt h.e0 r _), Nat.mul_add_mod_self_right, Nat.mod_eq_of_lt (valS_lt h.k0 h.small j m)] at e
  rw [e]
  rfl
/-- the words at unlike places are unlike -/
theorem RndN.inj {k m : Nat} {r : List Nat} (h : RndN k (k ^ m) r) {a b : Nat} (ha : a < r.length) (hb : b < r.length) (e : valS k r a (m + 1) = valS k r b (m + 1)) : a = b := by
  have h0 : 0 < r.length := by omega
  have h1 := h.code a
  have h2 := h.code b
  rw [e] at h1
  obtain ⟨l1, g1⟩ := List.getElem?_eq_some_iff.mp h1
  obtain ⟨l2, g2⟩ := List.getElem?_eq_some_iff.mp h2
  have e1 := (List.getElem_inj h.nd).mp (g1.trans g2.symm)
  have e2 : (a + m) % r.length + (r.length - m % r.length) = (b + m) % r.length + (r.length - m % r.length) := by rw [e1]
  have e3 : ((a + m) + (r.length - m % r.length)) % r.length = ((b + m) + (r.length - m % r.length)) % r.length := by
    rw [Nat.add_mod (a + m), e1, ← Nat.add_mod (b + m)]
  have hm := Nat.mod_lt m h0
  have e4 : ∀ x, x < r.length → ((x + m) + (r.length - m % r.length)) % r.length = x := fun x hx => by
    have hd := Nat.div_add_mod m r.length
    have : (x + m) + (r.length - m % r.length) = x + r.length * (m / r.length + 1) := by
      rw [Nat.mul_add, Nat.mul_one]
      omega
    rw [this, Nat.add_mul_mod_self_left, Nat.mod_eq_of_lt hx]
  rw [e4 a ha, e4 b hb] at e3
  exact e3
/-- each word stands somewhere -/
theorem RndN.hit {k m : Nat} {r : List Nat} (h : RndN k (k ^ m) r) {y : Nat} (hy : y < k ^ (m + 1)) : ∃ a, a < r.length ∧ valS k r a (m + 1) = y := by
  have h0 : 0 < r.length := by
    rw [h.len]
    exact Nat.mul_pos h.e0 h.k0
  obtain ⟨j, hj⟩ := List.mem_iff_getElem?.mp (h.all y (by rw [← Nat.pow_succ]; exact hy))
  have hjl : j < r.length := by
    have := (List.getElem?_eq_some_iff.mp hj).1
    rwa [codesN_len] at this
  have hm := Nat.mod_lt m h0
  refine ⟨(j + (r.length - m % r.length)) % r.length, Nat.mod_lt _ h0, ?_⟩
  have e := h.code ((j + (r.length - m % r.length)) % r.length)
  have hd := Nat.div_add_mod m r.length
  have e2 : ((j + (r.length - m % r.length)) % r.length + m) % r.length = j := by
    rw [Nat.mod_add_mod]
    have : j + (r.length - m % r.length) + m = j + r.length * (m / r.length + 1) := by
      rw [Nat.mul_add, Nat.mul_one]
      omega
    rw [this, Nat.add_mul_mod_self_left, Nat.mod_eq_of_lt hjl]
  rw [e2, hj] at e
  have e5 : valS k r ((j + (r.length - m % r.length)) % r.length) (m + 1) = y := (Option.some.inj e).symm
  exact e5
/-! ### the store of the drawn walk -/
theorem HdTo.split {S T s : S3} {n : Nat} (hn : n < S.length) (h : HdTo n (S ++ T) s) : ∃ S', HdTo n S S' ∧ s = S' ++ T := by
  obtain ⟨g, x, c, rfl⟩ := h
  exact ⟨_, ⟨g, x, c, rfl⟩, List.set_append_left _ _ hn⟩
theorem HdB.unapp {S T : S3} {n : Nat} {b : Int} (h : HdB (S ++ T) n b) (hn : n < S.length) : HdB S n b := by
  obtain ⟨g, x, c, e, h0, h1⟩ := h
  exact ⟨g, x, c, by rw [List.getElem?_append_left hn] at e; exact e, h0, h1⟩
theorem HdB.onto {S T : S3} {n : Nat} {b : Int} (h : HdB S n b) : HdB (S ++ T) n b := by
  have hn := h.hd.lt
  obtain ⟨g, x, c, e, h0, h1⟩ := h
  exact ⟨g, x, c, by rw [List.getElem?_append_left hn]; exact e, h0, h1⟩
theorem er_map {α β : Type} (f : α → β) : ∀ (l : List α) (j : Nat), (l.map f).eraseIdx j = (l.eraseIdx j).map f
  | [], _ => rfl
  | _ :: _, 0 => rfl
  | a :: l, j + 1 => by
    show f a :: (l.map f).eraseIdx j = f a :: (l.eraseIdx j).map f
    rw [er_map f l j]
theorem nodup_le : ∀ {N : Nat} {l : List Nat}, l.Nodup → (∀ y ∈ l, y < N) → l.length ≤ N
  | 0, [], _, _ => Nat.le_refl _
  | 0, y :: _, _, h => absurd (h y List.mem_cons_self) (Nat.not_lt_zero _)
  | N + 1, l, nd, h => by
    by_cases hN : N ∈ l
    · have h1 := nodup_le (N := N) (nd.erase N) fun y hy => by
        have h2 := (nd.mem_erase_iff).mp hy
        have h3 := h y h2.2
        have h4 := h2.1
        omega
      have := List.length_erase_of_mem hN
      omega
    · have := nodup_le (N := N) nd fun y hy => by
        have h3 := h y hy
        have h4 : y ≠ N := fun z => hN (z ▸ hy)
        omega
      omega
theorem lay_all : ∀ {xs : List PyData}, (∀ x ∈ xs, PyData.canLay0 x = true) → PyData.canLayAll0 xs = true
  | [], _ => by unfold PyData.canLayAll0; rfl
  | x :: xs, h => by
    unfold PyData.canLayAll0
    rw [h x List.mem_cons_self, lay_all fun y hy => h y (List.mem_cons_of_mem _ hy)]
    rfl
theorem dep_all {m : Nat} : ∀ {xs : List PyData}, (∀ x ∈ xs, PyData.depth x ≤ m) → PyData.depthAll xs ≤ m
  | [], _ => by unfold PyData.depthAll; exact Nat.zero_le _
  | x :: xs, h => by
    unfold PyData.depthAll
    have h1 := h x List.mem_cons_self
    have h2 := dep_all fun y hy => h y (List.mem_cons_of_mem _ hy)
    exact Nat.max_le.mpr ⟨h1, h2⟩
theorem shaped_l {m : Nat} (hm : m < 64) {xs : List PyData} (h : ∀ x ∈ xs, PyData.canLay0 x = true ∧ PyData.depth x ≤ m) : SeqAt.shaped (.list xs) = true := by
  have h1 := lay_all fun x hx => (h x hx).1
  have h2 := dep_all fun x hx => (h x hx).2
  unfold SeqAt.shaped PyData.canLay0 PyData.depth
  rw [h1]
  simp only [Bool.true_and, decide_eq_true_eq]
  omega
def pileD (k E : Nat) (ps : List Nat) : List PyData := .tuple [.int 0, .none] :: (pileN k E 0 ps).map fun p => .tuple [.int (p.1 : Nat), .int (p.2 : Nat)]
theorem pileD_snoc (k E : Nat) (ps : List Nat) (c : Nat) : pileD k E (ps ++ [c]) = pileD k E ps ++ [.tuple [.int (hdN k E (goN k E 0 ps) c : Nat), .int (c : Nat)]] := by
  unfold pileD
  rw [pileN_snoc, List.map_append]
  rfl
theorem pileD_top (k E : Nat) (ps : List Nat) : ∃ z, (pileD k E ps).getLast? = some (.tuple [.int (goN k E 0 ps : Nat), z]) := by
  rcases List.eq_nil_or_concat ps with rfl | ⟨ps, c, rfl⟩
  · exact ⟨_, rfl⟩
  · rw [List.concat_eq_append, pileD_snoc, List.getLast?_append, goN_snoc]
    exact ⟨_, rfl⟩
theorem pileD_len (k E : Nat) (ps : List Nat) : (pileD k E ps).length = ps.length + 1 := by
  unfold pileD
  rw [List.length_cons, List.length_map, pileN_len]
theorem shaped_pileD (k E : Nat) (ps : List Nat) : SeqAt.shaped (.list (pileD k E ps)) = true := by
  refine shaped_l (m := 1) (by decide) fun x hx => ?_
  rcases List.mem_cons.mp hx with rfl | hx
  · exact ⟨rfl, by decide⟩
  · obtain ⟨p, _, rfl⟩ := List.mem_map.mp hx
    exact ⟨by simp [PyData.canLay0, PyData.canLayAll0], by simp [PyData.depth, PyData.depthAll]⟩
theorem eqv_pileD (k E : Nat) (ps : List Nat) : PyData.eqv (.list (pileD k E ps)) (.list []) = false := by
  unfold pileD
  simp [PyData.eqv, PyData.eqvAll]
def natD (l : List Nat) : List PyData := l.map fun x => .int (x : Nat)
def LD (l : List Nat) : Option O3 := some (.lst (natD l))
def stE (S : S3) (E : Nat) (L : List (List Nat)) (p q : List PyData) : S3 := S ++ (L.map LD ++ [some (.lls ((List.range E).map fun i => .loc (S.length + i))), some (.lst p), some (.lst q)])
section
variable {S : S3} {B E : Nat} {L : List (List Nat)} {p q : List PyData}
theorem stE_len (hB : S.length = B) (hL : L.length = E) : (stE S E L p q).length = B + E + 3 := by
  unfold stE
  rw [List.length_append, List.length_append, List.length_map, hL, hB]
  rfl
theorem stE_l (hB : S.length = B) (hL : L.length = E) : (stE S E L p q)[B + E]? = some (some (.lls ((List.range E).map fun i => .loc (B + i)))) := by
  unfold stE
  rw [List.getElem?_append_right (by omega), List.getElem?_append_right (by rw [List.length_map]; omega), List.length_map, hB, hL, show B + E - B - E = 0 by omega]
  rfl
theorem stE_p (hB : S.length = B) (hL : L.length = E) : (stE S E L p q)[B + E + 1]? = some (some (.lst p)) := by
  unfold stE
  rw [List.getElem?_append_right (by omega), List.getElem?_append_right (by rw [List.length_map]; omega), List.length_map, hB, hL, show B + E + 1 - B - E = 1 by omega]
  rfl
theorem stE_q (hB : S.length = B) (hL : L.length = E) : (stE S E L p q)[B + E + 2]? = some (some (.lst q)) := by
  unfold stE
  rw [List.getElem?_append_right (by omega), List.getElem?_append_right (by rw [List.length_map]; omega), List.length_map, hB, hL, show B + E + 2 - B - E = 2 by omega]
  rfl
theorem stE_at (hB : S.length = B) {v : Nat} {l : List Nat} (h : L[v]? = some l) : (stE S E L p q)[B + v]? = some (some (.lst (natD l))) := by
  have hv := (List.getElem?_eq_some_iff.mp h).1
  unfold stE
  rw [List.getElem?_append_right (by omega), List.getElem?_append_left (by rw [List.length_map]; omega), hB, show B + v - B = v by omega, List.getElem?_map, h]
  rfl
theorem stE_setp (hB : S.length = B) (hL : L.length = E) (p' : List PyData) : (stE S E L p q).set (B + E + 1) (some (.lst p')) = stE S E L p' q := by
  unfold stE
  rw [List.set_append_right _ _ (by omega), List.set_append_right _ _ (by rw [List.length_map]; omega), List.length_map, hB, hL, show B + E + 1 - B - E = 1 by omega]
  rfl
theorem stE_setq (hB : S.length = B) (hL : L.length = E) (q' : List PyData) : (stE S E L p q).set (B + E + 2) (some (.lst q')) = stE S E L p q' := by
  unfold stE
  rw [List.set_append_right _ _ (by omega), List.set_append_right _ _ (by rw [List.length_map]; omega), List.length_map, hB, hL, show B + E + 2 - B - E = 2 by omega]
  rfl
theorem stE_setl (hB : S.length = B) {v : Nat} (hv : v < L.length) (l : List Nat) : (stE S E L p q).set (B + v) (some (.lst (natD l))) = stE S E (L.set v l) p q := by
  unfold stE
  rw [List.set_append_right _ _ (by omega), List.set_append_left _ _ (by rw [List.length_map]; omega), hB, show B + v - B = v by omega, List.map_set]
  rfl
theorem stE_hd {n : Nat} {s : S3} (hn : n < S.length) (h : HdTo n (stE S E L p q) s) : ∃ S', HdTo n S S' ∧ s = stE S' E L p q := by
  obtain ⟨S', h1, rfl⟩ := HdTo.split hn h
  refine ⟨S', h1, ?_⟩
  unfold stE
  rw [h1.len]
end
theorem atI_locs {B E v : Nat} (hv : v < E) : ((List.range E).map fun i => L3.D.loc (B + i))[v]? = some (.loc (B + v)) := by
  rw [List.getElem?_map, List.getElem?_range hv]
  rfl
theorem ixN_ltN {n v : Nat} (h : v < n) : ixN n ((v : Nat) : Int) = some v := by
  unfold ixN
  rw [if_pos (by omega), if_pos (by omega)]
  simp
theorem Eul.le {k E : Nat} {L : List (List Nat)} {ps os : List Nat} {a : Nat} (h : Eul k E L ps os a) : ps.length + os.length ≤ E * k := by
  have hlt : ∀ y ∈ codesN k E 0 ps ++ codesN k E a os, y < E * k := fun y hy => by
    rcases List.mem_append.mp hy with z | z
    · exact codesN_lt h.e0 h.e0 (fun c hc => h.small c (List.mem_append_left _ hc)) y z
    · exact codesN_lt h.e0 h.al (fun c hc => h.small c (List.mem_append_right _ hc)) y z
  have := nodup_le h.nd hlt
  rw [List.length_append, codesN_len, codesN_len] at this
  exact this
theorem natD_len (l : List Nat) : (natD l).length = l.length := by unfold natD; rw [List.length_map]
theorem natD_er (l : List Nat) (i : Nat) : (natD l).eraseIdx i = natD (l.eraseIdx i) := er_map _ l i
theorem eqv_natD (l : List Nat) : PyData.eqv (.list (natD l)) (.list []) = decide (l = []) := by
  cases l <;> simp [natD, PyData.eqv, PyData.eqvAll]
theorem shaped_natD (l : List Nat) : SeqAt.shaped (.list (natD l)) = true := shaped_l (m := 0) (by decide) fun x hx => by
  obtain ⟨c, _, rfl⟩ := List.mem_map.mp hx
  exact ⟨rfl, Nat.le_refl _⟩
def rowN (r : List Nat) : List Int := r.map fun (x : Nat) => (x : Int)
theorem natD_row (r : List Nat) : natD r = (rowN r).map PyData.int := by unfold natD rowN; rw [List.map_map]; rfl
theorem fin_cut {n : Nat} {S S' T : S3} {Q : K3} {d : PyData} (h : HdTo n S S') (q : Q (.p d) S') : Fin3 S Q (.p d) (S' ++ T) := ⟨S'.length, by rw [h.len]; exact Nat.le_refl _, trivial, by rw [List.take_left]; exact q⟩
theorem stE_fin {n E : Nat} {L : List (List Nat)} {p q : List PyData} {S S' : S3} {Q : K3} {d : PyData} (h : HdTo n S S') (hq : Q (.p d) S') : Fin3 S Q (.p d) (stE S' E L p q) := fin_cut h hq
theorem stE_hdb {n E : Nat} {L : List (List Nat)} {p q : List PyData} {S : S3} {b : Int} (h : HdB S n b) : HdB (stE S E L p q) n b := h.onto
theorem stE_unhdb {n E : Nat} {L : List (List Nat)} {p q : List PyData} {S : S3} {b : Int} (hn : n < S.length) (h : HdB (stE S E L p q) n b) : HdB S n b := h.unapp hn
theorem rng_nats (k : Nat) : rng 0 ((k : Int) - 0).toNat = natD (List.range k) := by
  unfold rng natD
  rw [Int.sub_zero, Int.toNat_natCast]
  refine List.map_congr_left fun x _ => ?_
  rw [Int.zero_add]
/-! ### twins of round rows -/
def wordsR (r : List Int) (n m : Nat) : List (List Int) := (List.range m).map (wdAt r n)
def firstR (r : List Int) (n : Nat) (v : List Int) (m : Nat) : Option Nat := (List.range m).find? fun j => decide (wdAt r n j = v)
def prsR (r : List Int) (n m : Nat) : List (List Int) := (List.range m).filterMap fun j => (firstR r n (wdAt r n j) j).map fun (f : Nat) => [(f : Int), (j : Int)]
def minR : List (List Int) → PyData
  | [] => .none
  | x :: xs => PySem.W.minD (tupI x) (xs.map tupI)
def twR (r : List Int) (n : Nat) : PyData := minR (prsR r n r.length)
theorem firstR_succ (r : List Int) (n : Nat) (v : List Int) (m : Nat) : firstR r n v (m + 1) = (firstR r n v m).or (if wdAt r n m = v then some m else none) := by
  unfold firstR
  rw [List.range_succ, List.find?_append]
  congr 1
  by_cases e : wdAt r n m = v
  · simp [List.find?_cons, e]
  · simp [List.find?_cons, e]
theorem prsR_succ (r : List Int) (n m : Nat) : prsR r n (m + 1) = prsR r n m ++ ((firstR r n (wdAt r n m) m).map fun (f : Nat) => [(f : Int), (m : Int)]).toList := by
  unfold prsR
  rw [List.range_succ, List.filterMap_append, List.filterMap_cons, List.filterMap_nil]
  cases firstR r n (wdAt r n m) m <;> rfl
theorem prsR_len (r : List Int) (n m : Nat) : (prsR r n m).length ≤ m := by
  unfold prsR
  exact Nat.le_trans (List.length_filterMap_le ..) (by rw [List.length_range]; exact Nat.le_refl _)
theorem firstR_none (r : List Int) (n : Nat) (v : List Int) (m : Nat) : firstR r n v m = none ↔ v ∉ wordsR r n m := by
  unfold firstR wordsR
  rw [List.find?_eq_none]
  simp only [List.mem_map, List.mem_range, decide_eq_true_eq, not_exists, not_and]
theorem prsR_nil (r : List Int) (n : Nat) : ∀ m, prsR r n m = [] ↔ (wordsR r n m).Nodup
  | 0 => by simp [prsR, wordsR]
  | m + 1 => by
    have e : wordsR r n (m + 1) = wordsR r n m ++ [wdAt r n m] := by
      unfold wordsR
      rw [List.range_succ, List.map_append]
      rfl
    have h1 := firstR_none r n (wdAt r n m) m
    rw [prsR_succ, List.append_eq_nil_iff, prsR_nil r n m, e]
    have h2 : (wordsR r n m ++ [wdAt r n m]).Nodup ↔ (wordsR r n m).Nodup ∧ wdAt r n m ∉ wordsR r n m := by
      rw [List.perm_append_comm.nodup_iff]
      show (wdAt r n m :: wordsR r n m).Nodup ↔ _
      rw [List.nodup_cons]
      exact And.comm
    rw [h2, ← h1]
    cases firstR r n (wdAt r n m) m with
    | none => simp
    | some x => simp
theorem minR_code (x : List Int) (xs : List (List Int)) : ∃ m ∈ x :: xs, minR (x :: xs) = tupI m ∧ ∀ y ∈ x :: xs, lexI y m = false := minD_code tupI (fun a => a) dataLt_tupI xs x
theorem twR_none (r : List Int) (n : Nat) : twR r n = .none ↔ (wordsR r n r.length).Nodup := by
  rw [← prsR_nil]
  unfold twR
  cases h : prsR r n r.length with
  | nil => simp [minR]
  | cons x xs =>
    obtain ⟨m, _, e, _⟩ := minR_code x xs
    rw [e]
    simp [tupI]
theorem minOk_tupI (l : List (List Int)) : MinOk (l.map tupI) := by
  refine ⟨⟨fun x hx y hy => ?_, fun x hx => ?_⟩, Nat.le_trans (dep_all (m := 1) fun x hx => ?_) (by decide)⟩
  · obtain ⟨p, _, rfl⟩ := List.mem_map.mp hx
    obtain ⟨q, _, rfl⟩ := List.mem_map.mp hy
    exact alike_tupI p q
  · obtain ⟨p, _, rfl⟩ := List.mem_map.mp hx
    exact tupI_ne_none p
  · obtain ⟨p, _, rfl⟩ := List.mem_map.mp hx
    unfold tupI PyData.depth
    have := dep_all (m := 0) (xs := p.map PyData.int) fun x hx => by
      obtain ⟨i, _, rfl⟩ := List.mem_map.mp hx
      exact Nat.le_refl _
    omega
theorem shaped_ltup (l : List (List Int)) : SeqAt.shaped (.list (l.map tupI)) = true := shaped_l (m := 1) (by decide) fun x hx => by
  obtain ⟨p, _, rfl⟩ := List.mem_map.mp hx
  have h1 := shaped_tints p
  unfold SeqAt.shaped at h1
  refine ⟨(Bool.and_eq_true_iff.mp h1).1, ?_⟩
  unfold tupI PyData.depth
  have := dep_all (m := 0) (xs := p.map PyData.int) fun x hx => by
    obtain ⟨i, _, rfl⟩ := List.mem_map.mp hx
    exact Nat.le_refl _
  omega
theorem wdAt_ne {r : List Int} {n a : Nat} (h : 0 < n) : wdAt r n a ≠ [] := fun z => by
  have := wdAt_ln r n a
  rw [z] at this
  simp at this
  omega
/-- whether each word of n numbers below k stands just once -/
def fulR (r : List Int) (k n : Nat) : Bool := decide (r.length = k ^ n) && (decide (∀ x ∈ r, x < (k : Int)) && decide (wordsR r n r.length).Nodup)
theorem minR_kind (l : List (List Int)) : minR l = .none ∨ ∃ m, minR l = tupI m := by
  cases l with
  | nil => exact .inl rfl
  | cons x xs =>
    obtain ⟨m, _, e, _⟩ := minR_code x xs
    exact .inr ⟨m, e⟩
theorem twR_kind (r : List Int) (n : Nat) : (twR r n = .none ∧ (wordsR r n r.length).Nodup) ∨ ∃ m, twR r n = tupI m ∧ ¬ (wordsR r n r.length).Nodup := by
  by_cases h : (wordsR r n r.length).Nodup
  · exact .inl ⟨(twR_none r n).mpr h, h⟩
  · rcases minR_kind (prsR r n r.length) with e | ⟨m, e⟩
    · exact absurd ((twR_none r n).mp e) h
    · exact .inr ⟨m, e, h⟩
theorem foldl_max_ge : ∀ (ns : List Int) (a : Int), a ≤ ns.foldl (fun m x => if x > m then x else m) a ∧ ∀ x ∈ ns, x ≤ ns.foldl (fun m x => if x > m then x else m) a
  | [], a => ⟨Int.le_refl _, fun _ h => nomatch h⟩
  | y :: ns, a => by
    obtain ⟨h1, h2⟩ := foldl_max_ge ns (if y > a then y else a)
    have ha : a ≤ (if y > a then y else a) := by split <;> omega
    have hy : y ≤ (if y > a then y else a) := by split <;> omega
    rw [List.foldl_cons]
    refine ⟨Int.le_trans ha h1, fun x hx => ?_⟩
    rcases List.mem_cons.mp hx with rfl | hx
    · exact Int.le_trans hy h1
    · exact h2 x hx
theorem maxI_ge {ns : List Int} {x : Int} (h : x ∈ ns) : x ≤ maxI ns := by
  cases ns with
  | nil => cases h
  | cons n ns =>
    obtain ⟨h1, h2⟩ := foldl_max_ge ns n
    rcases List.mem_cons.mp h with rfl | h
    · exact h1
    · exact h2 x h
theorem maxI_lt {k : Int} : ∀ {ns : List Int} {n : Int}, maxI (n :: ns) < k ↔ ∀ x ∈ n :: ns, x < k := by
  intro ns n
  constructor
  · intro h x hx
    have := maxI_ge hx
    omega
  · intro h
    exact h _ (maxI_mem (by simp))
/-! ### all words -/
def stW (k : Nat) (L : List (List Int)) : List (List Int) := L.flatMap fun w => (List.range k).map fun (s : Nat) => w ++ [((s : Nat) : Int)]
def wdsW (k : Nat) : Nat → List (List Int)
  | 0 => [[]]
  | n + 1 => stW k (wdsW k n)
theorem mem_wdsW {k : Nat} : ∀ {n : Nat} {w : List Int}, w ∈ wdsW k n ↔ w.length = n ∧ ∀ x ∈ w, 0 ≤ x ∧ x < k
  | 0, w => by
    unfold wdsW
    rw [List.mem_singleton]
    constructor
    · rintro rfl
      exact ⟨rfl, fun x hx => by cases hx⟩
    · rintro ⟨h, _⟩
      exact List.eq_nil_of_length_eq_zero h
  | n + 1, w => by
    unfold wdsW stW
    rw [List.mem_flatMap]
    constructor
    · rintro ⟨v, hv, hw⟩
      obtain ⟨s, hs, rfl⟩ := List.mem_map.mp hw
      obtain ⟨h1, h2⟩ := mem_wdsW.mp hv
      refine ⟨by rw [List.length_append, h1]; rfl, fun x hx => ?_⟩
      rcases List.mem_append.mp hx with hx | hx
      · exact h2 x hx
      · rw [List.mem_singleton.mp hx]
        have := List.mem_range.mp hs
        omega
    · rintro ⟨h1, h2⟩
      rcases List.eq_nil_or_concat w with rfl | ⟨v, x, rfl⟩
      · cases h1
      · rw [List.concat_eq_append] at *
        have hx := h2 x (by simp)
        refine ⟨v, mem_wdsW.mpr ⟨by simpa using h1, fun y hy => h2 y (List.mem_append_left _ hy)⟩, List.mem_map.mpr ⟨x.toNat, List.mem_range.mpr (by omega), by rw [Int.toNat_of_nonneg hx.1]⟩⟩
theorem lexI_appW {a b : List Int} (x y : List Int) (hl : a.length = b.length) (h : lexI a b = true) : lexI (a ++ x) (b ++ y) = true := by
  induction a generalizing b with
  | nil =>
    cases b with
    | nil => rw [lexI_irr] at h; cases h
    | cons _ _ => cases hl
  | cons a as ih =>
    cases b with
    | nil => cases hl
    | cons b bs =>
      rw [List.cons_append, List.cons_append]
      unfold lexI at h ⊢
      by_cases e : a = b
      · rw [if_pos e] at h ⊢
        exact ih (by simpa using hl) h
      · rw [if_neg e] at h ⊢
        exact h
theorem lexI_last (a : List Int) {x y : Int} (h : x < y) : lexI (a ++ [x]) (a ++ [y]) = true := by
  induction a with
  | nil =>
    show lexI [x] [y] = true
    unfold lexI
    rw [if_neg (by omega)]
    exact decide_eq_true h
  | cons a as ih =>
    rw [List.cons_append, List.cons_append]
    unfold lexI
    rw [if_pos rfl]
    exact ih
theorem wdsW_sorted (k : Nat) : ∀ n, (wdsW k n).Pairwise fun a b => lexI a b = true
  | 0 => by unfold wdsW; exact List.pairwise_singleton _ _
  | n + 1 => by
    have ih := wdsW_sorted k n
    have hm : ∀ w ∈ wdsW k n, w.length = n := fun w hw => (mem_wdsW.mp hw).1
    unfold wdsW stW
    generalize wdsW k n = L at *
    induction L with
    | nil => exact .nil
    | cons v L ih2 =>
      obtain ⟨h1, h2⟩ := List.pairwise_cons.mp ih
      rw [List.flatMap_cons, List.pairwise_append]
      refine ⟨?_, ih2 h2 fun w hw => hm w (List.mem_cons_of_mem _ hw), fun a ha b hb => ?_⟩
      · rw [List.pairwise_map]
        exact List.pairwise_lt_range.imp fun {a b} hab => lexI_last v (by omega)
      · obtain ⟨s, _, rfl⟩ := List.mem_map.mp ha
        obtain ⟨u, hu, hb2⟩ := List.mem_flatMap.mp hb
        obtain ⟨s', _, rfl⟩ := List.mem_map.mp hb2
        exact lexI_appW _ _ (by rw [hm v List.mem_cons_self, hm u (List.mem_cons_of_mem _ hu)]) (h1 u hu)
theorem wdsW_len (k : Nat) : ∀ n, (wdsW k n).length = k ^ n
  | 0 => rfl
  | n + 1 => by
    have ih := wdsW_len k n
    unfold wdsW stW
    rw [Nat.pow_succ, ← ih]
    generalize wdsW k n = L
    induction L with
    | nil => simp
    | cons v L ih2 => rw [List.flatMap_cons, List.length_append, ih2, List.length_map, List.length_range, List.length_cons, Nat.succ_mul, Nat.add_comm]
theorem wdsW_nodup (k n : Nat) : (wdsW k n).Nodup := (wdsW_sorted k n).imp fun {a b} h e => by rw [e, lexI_irr] at h; cases h
theorem nodup_inW {α : Type} [DecidableEq α] : ∀ {G L : List α}, G.Nodup → L.Nodup → (∀ g ∈ G, g ∈ L) → (L.filter fun x => decide (x ∈ G)).length = G.length
  | [], L, _, _, _ => by simp
  | g :: G, L, h1, h2, h3 => by
    obtain ⟨n1, n2⟩ := List.nodup_cons.mp h1
    have hg := h3 g List.mem_cons_self
    have ih := nodup_inW (G := G) (L := L.erase g) n2 (h2.erase g) fun x hx => (List.mem_erase_of_ne (fun z => n1 (by rw [← z]; exact hx))).mpr (h3 x (List.mem_cons_of_mem _ hx))
    have hp := (List.perm_cons_erase hg).filter fun x => decide (x ∈ g :: G)
    rw [hp.length_eq, List.filter_cons, if_pos (by simp), List.length_cons, List.length_cons, ← ih]
    congr 2
    refine List.filter_congr fun x hx => ?_
    have hxg : x ≠ g := fun z => by
      rw [z] at hx
      exact (List.Nodup.not_mem_erase h2) hx
    simp [hxg]
theorem perm_ofW {α : Type} [DecidableEq α] : ∀ {F W : List α}, F.Nodup → W.Nodup → (∀ x ∈ F, x ∈ W) → F.length = W.length → F.Perm W
  | [], W, _, _, _, hl => by
    rw [List.eq_nil_of_length_eq_zero hl.symm]
  | x :: F, W, h1, h2, h3, hl => by
    obtain ⟨n1, n2⟩ := List.nodup_cons.mp h1
    have hx := h3 x List.mem_cons_self
    have hp := List.perm_cons_erase hx
    have ih := perm_ofW (F := F) (W := W.erase x) n2 (h2.erase x) (fun y hy => (List.mem_erase_of_ne (fun z => n1 (by rw [← z]; exact hy))).mpr (h3 y (List.mem_cons_of_mem _ hy))) (by
      have := hp.length_eq
      rw [List.length_cons] at this hl
      omega)
    exact (ih.cons x).trans hp.symm
/-! ### rows in which each word stands once; even rules -/
structure FulW (k n : Nat) (r : List Nat) : Prop where
  k0 : 0 < k
  n0 : 0 < n
  small : ∀ c ∈ r, c < k
  len : r.length = k ^ n
  inj : ∀ a b, a < r.length → b < r.length → valS k r a n = valS k r b n → a = b
  hit : ∀ y, y < k ^ n → ∃ a, a < r.length ∧ valS k r a n = y
theorem RndN.ful {k m : Nat} {r : List Nat} (h : RndN k (k ^ m) r) : FulW k (m + 1) r := ⟨h.k0, by omega, h.small, by rw [h.len, Nat.pow_succ], fun _ _ ha hb e => h.inj ha hb e, fun _ hy => h.hit hy⟩
theorem FulW.pos {k n : Nat} {r : List Nat} (h : FulW k n r) : 0 < r.length := by rw [h.len]; exact Nat.pow_pos h.k0
theorem cS_mod (r : List Nat) (j : Nat) : cS r (j % r.length) = cS r j := by unfold cS; rw [Nat.mod_mod]
theorem cS_lt {k : Nat} {r : List Nat} (k0 : 0 < k) (hr : ∀ c ∈ r, c < k) (j : Nat) : cS r j < k := by
  unfold cS
  rw [List.getD_eq_getElem?_getD]
  cases e : r[j % r.length]? with
  | none => exact k0
  | some c => exact hr c (List.mem_of_getElem? e)
theorem valS_congr {k : Nat} {r s : List Nat} {a b : Nat} (h : ∀ j, cS r (a + j) = cS s (b + j)) : ∀ n, valS k r a n = valS k s b n
  | 0 => rfl
  | n + 1 => by
    show valS k r a n * k + cS r (a + n) = valS k s b n * k + cS s (b + n)
    rw [valS_congr h n, h n]
theorem valS_mod (k : Nat) (r : List Nat) (j n : Nat) : valS k r (j % r.length) n = valS k r j n := valS_congr (fun i => by
  rw [← cS_mod r (j % r.length + i), Nat.mod_add_mod, cS_mod]) n
theorem cS_turn (r : List Nat) {a : Nat} (ha : a < r.length) (j : Nat) : cS (r.drop a ++ r.take a) j = cS r (a + j) := by
  have hl : (r.drop a ++ r.take a).length = r.length := by rw [List.length_append, List.length_drop, List.length_take]; omega
  unfold cS
  rw [hl]
  have hj := Nat.mod_lt j (show 0 < r.length by omega)
  have e : (a + j) % r.length = (a + j % r.length) % r.length := by rw [Nat.add_mod_mod]
  rw [e]
  generalize j % r.length = i at hj
  rw [List.getD_eq_getElem?_getD, List.getD_eq_getElem?_getD]
  congr 1
  by_cases h : i < r.length - a
  · rw [List.getElem?_append_left (by rw [List.length_drop]; exact h), List.getElem?_drop, Nat.mod_eq_of_lt (by omega)]
  · have e2 : (a + i) % r.length = i - (r.length - a) := by
      rw [show a + i = (i - (r.length - a)) + r.length by omega, Nat.add_mod_right, Nat.mod_eq_of_lt (by omega)]
    rw [List.getElem?_append_right (by rw [List.length_drop]; omega), List.length_drop, e2, List.getElem?_take, if_pos (by omega)]
theorem FulW.turn {k n : Nat} {r : List Nat} (h : FulW k n r) {a : Nat} (ha : a < r.length) : FulW k n (r.drop a ++ r.take a) := by
  have hl : (r.drop a ++ r.take a).length = r.length := by rw [List.length_append, List.length_drop, List.length_take]; omega
  have hv : ∀ j, valS k (r.drop a ++ r.take a) j n = valS k r ((a + j) % r.length) n := fun j => by
    rw [valS_mod]
    exact valS_congr (fun i => by rw [cS_turn r ha, Nat.add_assoc]) n
  have h0 := h.pos
  refine ⟨h.k0, h.n0, fun c hc => ?_, by rw [hl]; exact h.len, fun x y hx hy e => ?_, fun y hy => ?_⟩
  · rcases List.mem_append.mp hc with z | z
    · exact h.small c (List.mem_of_mem_drop z)
    · exact h.small c (List.mem_of_mem_take z)
  · rw [hl] at hx hy
    rw [hv, hv] at e
    have e2 := h.inj _ _ (Nat.mod_lt _ h0) (Nat.mod_lt _ h0) e
    have e3 : ((a + x) % r.length + (r.length - a)) % r.length = ((a + y) % r.length + (r.length - a)) % r.length := by rw [e2]
    rw [Nat.mod_add_mod, Nat.mod_add_mod, show a + x + (r.length - a) = x + r.length by omega, show a + y + (r.length - a) = y + r.length by omega, Nat.add_mod_right, Nat.add_mod_right, Nat.mod_eq_of_lt hx, Nat.mod_eq_of_lt hy] at e3
    exact e3
  · obtain ⟨b, hb, e⟩ := h.hit y hy
    refine ⟨(b + (r.length - a)) % r.length, by rw [hl]; exact Nat.mod_lt _ h0, ?_⟩
    rw [hv, Nat.add_mod_mod, show a + (b + (r.length - a)) = b + r.length by omega, Nat.add_mod_right, Nat.mod_eq_of_lt hb, e]
/-- what stands behind the word of a number -/
def nextW (k n : Nat) (r : List Nat) (y : Nat) : Nat := cS r (((List.range r.length).find? fun a => decide (valS k r a n = y)).getD 0 + n)
theorem FulW.next {k n : Nat} {r : List Nat} (h : FulW k n r) {a : Nat} (ha : a < r.length) : nextW k n r (valS k r a n) = cS r (a + n) := by
  unfold nextW
  cases hf : (List.range r.length).find? fun b => decide (valS k r b n = valS k r a n) with
  | none =>
    have := List.find?_eq_none.mp hf a (List.mem_range.mpr ha)
    simp at this
  | some b =>
    have h1 := List.find?_some hf
    have h2 := List.mem_range.mp (List.mem_of_find?_eq_some hf)
    have := h.inj b a h2 ha (of_decide_eq_true h1)
    rw [this]
    rfl
def rulW (k n : Nat) (r : List Nat) : List Nat := (List.range (k ^ n)).map (nextW k n r)
/-- the number of the word that follows by a rule -/
def folN (k n : Nat) (F : List Nat) (y : Nat) : Nat := y % k ^ (n - 1) * k + F.getD y 0
structure EvenN (k n : Nat) (F : List Nat) : Prop where
  k0 : 0 < k
  n0 : 0 < n
  len : F.length = k ^ n
  small : ∀ c ∈ F, c < k
  nd : ((List.range (k ^ n)).map (folN k n F)).Nodup
theorem pow_prd {k n : Nat} (hn : 0 < n) : k ^ n = k ^ (n - 1) * k := by
  conv => lhs; rw [show n = (n - 1) + 1 by omega, Nat.pow_succ]
theorem valS_last {k n : Nat} {r : List Nat} (k0 : 0 < k) (hr : ∀ c ∈ r, c < k) (a : Nat) : ∀ n, valS k r a (n + 1) % k ^ n = valS k r (a + 1) n
  | 0 => by simp [valS, Nat.mod_one]
  | n + 1 => by
    have ih := valS_last (n := n) k0 hr a n
    show (valS k r a (n + 1) * k + cS r (a + (n + 1))) % k ^ (n + 1) = valS k r (a + 1) n * k + cS r (a + 1 + n)
    have hc := cS_lt k0 hr (a + (n + 1))
    have hd := Nat.div_add_mod (valS k r a (n + 1)) (k ^ n)
    rw [ih] at hd
    have hv := valS_lt k0 hr (a + 1) n
    have e : valS k r a (n + 1) * k + cS r (a + (n + 1)) = k ^ (n + 1) * (valS k r a (n + 1) / k ^ n) + (valS k r (a + 1) n * k + cS r (a + (n + 1))) := by
      conv => lhs; rw [← hd]
      rw [Nat.add_mul, Nat.pow_succ, Nat.mul_right_comm, Nat.add_assoc]
    have hlt := Nat.mul_le_mul_right k (show valS k r (a + 1) n + 1 ≤ k ^ n by omega)
    rw [Nat.add_mul, Nat.one_mul] at hlt
    rw [e, Nat.mul_add_mod, Nat.mod_eq_of_lt (by rw [Nat.pow_succ]; omega), show a + 1 + n = a + (n + 1) by omega]
theorem rulW_at {k n : Nat} {r : List Nat} {y : Nat} (hy : y < k ^ n) : (rulW k n r).getD y 0 = nextW k n r y := by
  unfold rulW
  rw [List.getD_eq_getElem?_getD, List.getElem?_map, List.getElem?_range hy]
  rfl
theorem FulW.fol {k n : Nat} {r : List Nat} (h : FulW k n r) {a : Nat} (ha : a < r.length) : folN k n (rulW k n r) (valS k r a n) = valS k r (a + 1) n := by
  have hlt := valS_lt h.k0 h.small a n
  unfold folN
  rw [rulW_at hlt, h.next ha]
  have n0 := h.n0
  obtain ⟨m, rfl⟩ : ∃ m, n = m + 1 := ⟨n - 1, by omega⟩
  rw [Nat.add_sub_cancel, valS_last (n := m) h.k0 h.small]
  show _ = valS k r (a + 1) m * k + cS r (a + 1 + m)
  rw [show a + 1 + m = a + (m + 1) by omega]
theorem nd_map_of {α β : Type} {f : α → β} : ∀ {l : List α}, l.Nodup → (∀ x ∈ l, ∀ y ∈ l, f x = f y → x = y) → (l.map f).Nodup
  | [], _, _ => List.nodup_nil
  | a :: l, h, hf => by
    obtain ⟨h1, h2⟩ := List.nodup_cons.mp h
    rw [List.map_cons, List.nodup_cons]
    refine ⟨fun hm => ?_, nd_map_of h2 fun x hx y hy => hf x (List.mem_cons_of_mem _ hx) y (List.mem_cons_of_mem _ hy)⟩
    obtain ⟨b, hb, e⟩ := List.mem_map.mp hm
    have := hf b (List.mem_cons_of_mem _ hb) a List.mem_cons_self e
    rw [this] at hb
    exact h1 hb
theorem FulW.even {k n : Nat} {r : List Nat} (h : FulW k n r) : EvenN k n (rulW k n r) := by
  have h0 := h.pos
  refine ⟨h.k0, h.n0, by unfold rulW; rw [List.length_map, List.length_range], fun c hc => ?_, nd_map_of List.nodup_range fun x hx y hy e => ?_⟩
  · unfold rulW at hc
    obtain ⟨y, _, rfl⟩ := List.mem_map.mp hc
    exact cS_lt h.k0 h.small _
  · obtain ⟨a, ha, rfl⟩ := h.hit x (List.mem_range.mp hx)
    obtain ⟨b, hb, rfl⟩ := h.hit y (List.mem_range.mp hy)
    rw [h.fol ha, h.fol hb, ← valS_mod k r (a + 1), ← valS_mod k r (b + 1)] at e
    have e2 := h.inj _ _ (Nat.mod_lt _ h0) (Nat.mod_lt _ h0) e
    have e3 : ((a + 1) % r.length + (r.length - 1)) % r.length = ((b + 1) % r.length + (r.length - 1)) % r.length := by rw [e2]
    rw [Nat.mod_add_mod, Nat.mod_add_mod, show a + 1 + (r.length - 1) = a + r.length by omega, show b + 1 + (r.length - 1) = b + r.length by omega, Nat.add_mod_right, Nat.add_mod_right, Nat.mod_eq_of_lt ha, Nat.mod_eq_of_lt hb] at e3
    rw [e3]
/-- the turning rule -/
def trnN (k n : Nat) : List Nat := (List.range (k ^ n)).map fun y => y / k ^ (n - 1)
theorem trnN_even {k n : Nat} (k0 : 0 < k) (n0 : 0 < n) : EvenN k n (trnN k n) := by
  have hE : 0 < k ^ (n - 1) := Nat.pow_pos k0
  have hq : ∀ y, y < k ^ n → y / k ^ (n - 1) < k := fun y hy => Nat.div_lt_of_lt_mul (by rw [← pow_prd n0]; exact hy)
  refine ⟨k0, n0, by unfold trnN; rw [List.length_map, List.length_range], fun c hc => ?_, nd_map_of List.nodup_range fun x hx y hy e => ?_⟩
  · obtain ⟨y, hy, rfl⟩ := List.mem_map.mp hc
    exact hq y (List.mem_range.mp hy)
  · have hx := List.mem_range.mp hx
    have hy := List.mem_range.mp hy
    have at_ : ∀ y, y < k ^ n → (trnN k n).getD y 0 = y / k ^ (n - 1) := fun y hy => by
      unfold trnN
      rw [List.getD_eq_getElem?_getD, List.getElem?_map, List.getElem?_range hy]
      rfl
    unfold folN at e
    rw [at_ x hx, at_ y hy] at e
    obtain ⟨e1, e2⟩ := code_inj (hq x hx) (hq y hy) e
    rw [← Nat.div_add_mod x (k ^ (n - 1)), ← Nat.div_add_mod y (k ^ (n - 1)), e1, e2]
/-! words of rows as lists of whole numbers -/
theorem rowN_len (r : List Nat) : (rowN r).length = r.length := by unfold rowN; rw [List.length_map]
theorem rowN_at (r : List Nat) (j : Nat) : (rowN r).getD (j % (rowN r).length) 0 = ((cS r j : Nat) : Int) := by
  unfold cS
  rw [rowN_len, List.getD_eq_getElem?_getD, List.getD_eq_getElem?_getD]
  unfold rowN
  rw [List.getElem?_map]
  cases r[j % r.length]? <;> rfl
theorem wd_val (k : Nat) (r : List Nat) (a : Nat) : ∀ n, valW (k : Int) (wdAt (rowN r) n a) = ((valS k r a n : Nat) : Int)
  | 0 => rfl
  | n + 1 => by
    rw [wdAt_one, valW_snoc, wd_val k r a n, rowN_at]
    show _ = ((valS k r a n * k + cS r (a + n) : Nat) : Int)
    rw [Int.natCast_add, Int.natCast_mul]
theorem wd_wd {k : Nat} {r : List Nat} (k0 : 0 < k) (hr : ∀ c ∈ r, c < k) (n a : Nat) : Wd (k : Int) n (wdAt (rowN r) n a) := by
  refine ⟨wdAt_ln _ n a, fun d hd => ?_⟩
  unfold wdAt at hd
  obtain ⟨j, _, rfl⟩ := List.mem_map.mp hd
  rw [rowN_at]
  have := cS_lt k0 hr (a + j)
  omega
theorem valW_injF {k : Int} (hk : 0 < k) {n : Nat} {a b : List Int} (ha : Wd k n a) (hb : Wd k n b) (h : valW k a = valW k b) : a = b := by
  have hl := ha.1.trans hb.1.symm
  have h1 := lex_val hk hl ha.2 hb.2
  have h2 := lex_val hk hl.symm hb.2 ha.2
  rw [h] at h1
  rw [h] at h2
  simp only [Int.lt_irrefl, decide_false] at h1 h2
  exact lexI_tot h1 h2
theorem rng_codes (k : Nat) : ∀ N : Nat, (List.range N).flatMap (fun v => (List.range k).map fun s => v * k + s) = List.range (N * k)
  | 0 => by simp
  | N + 1 => by
    rw [List.range_succ, List.flatMap_append, rng_codes k N, Nat.add_mul, Nat.one_mul, List.range_add]
    simp
theorem wds_vals (k : Nat) : ∀ n, (wdsW k n).map (fun w => (valW (k : Int) w).toNat) = List.range (k ^ n)
  | 0 => rfl
  | n + 1 => by
    have hv : ∀ w ∈ wdsW k n, 0 < k → 0 ≤ valW (k : Int) w := fun w hw k0 => (valW_bd (by omega) (mem_wdsW.mp hw).2).1
    rw [show wdsW k (n + 1) = stW k (wdsW k n) from rfl, Nat.pow_succ, ← rng_codes, ← wds_vals k n]
    unfold stW
    rw [List.map_flatMap, List.flatMap_map]
    refine fm_cong fun w hw => ?_
    rw [List.map_map]
    refine List.map_congr_left fun s hs => ?_
    have hs := List.mem_range.mp hs
    have h0 := hv w hw (by omega)
    show (valW (k : Int) (w ++ [((s : Nat) : Int)])).toNat = (valW (k : Int) w).toNat * k + s
    rw [valW_snoc]
    obtain ⟨v, e⟩ := Int.eq_ofNat_of_zero_le h0
    rw [e]
    have : ((v : Nat) : Int) * (k : Int) + (s : Nat) = ((v * k + s : Nat) : Int) := by rw [Int.natCast_add, Int.natCast_mul]
    rw [this, Int.toNat_natCast, Int.toNat_natCast]
where
  fm_cong {α β : Type} {f g : α → List β} : ∀ {l : List α}, (∀ x ∈ l, f x = g x) → l.flatMap f = l.flatMap g
    | [], _ => rfl
    | x :: l, h => by
      rw [List.flatMap_cons, List.flatMap_cons, h x List.mem_cons_self, fm_cong fun y hy => h y (List.mem_cons_of_mem _ hy)]
theorem wds_map {β : Type} (k n : Nat) (f : Nat → β) : (wdsW k n).map (fun w => f (valW (k : Int) w).toNat) = (List.range (k ^ n)).map f := by
  rw [← wds_vals k n, List.map_map]
  rfl
/-! ### even rules as data -/
def folL (k n : Nat) (l : List Int) : List Int := (List.range l.length).map fun i => ((i % k ^ (n - 1) * k : Nat) : Int) + l.getD i 0
def evnI (k n : Nat) (l : List Int) : Bool := decide (l.length = k ^ n) && (decide (k ^ n ≤ 600) && (decide (∀ x ∈ l, 0 ≤ x ∧ x < (k : Int)) && decide (folL k n l).Nodup))
def rulB (k n : Nat) : PyData → Bool
  | .tuple ds => match allP int? ds with
    | some l => evnI k n l
    | none => false
  | _ => false
theorem rulB_ints (k n : Nat) (l : List Int) : rulB k n (tupI l) = evnI k n l := by
  show (match allP int? (l.map PyData.int) with | some l => evnI k n l | none => false) = _
  rw [allP_ints]
theorem folL_row (k n : Nat) (F : List Nat) (h : F.length = k ^ n) : folL k n (rowN F) = ((List.range (k ^ n)).map (folN k n F)).map fun (x : Nat) => (x : Int) := by
  unfold folL
  rw [rowN_len, h, List.map_map]
  refine List.map_congr_left fun i hi => ?_
  have hi := List.mem_range.mp hi
  show _ = ((folN k n F i : Nat) : Int)
  unfold folN rowN
  rw [Int.natCast_add]
  congr 1
  rw [List.getD_eq_getElem?_getD, List.getD_eq_getElem?_getD, List.getElem?_map]
  cases F[i]? <;> rfl
theorem EvenN.evn {k n : Nat} {F : List Nat} (h : EvenN k n F) (h6 : k ^ n ≤ 600) : evnI k n (rowN F) = true := by
  unfold evnI
  have h1 : (rowN F).length = k ^ n := by rw [rowN_len, h.len]
  have h2 : ∀ x ∈ rowN F, 0 ≤ x ∧ x < (k : Int) := fun x hx => by
    obtain ⟨c, hc, rfl⟩ := List.mem_map.mp hx
    have := h.small c hc
    omega
  have h3 : (folL k n (rowN F)).Nodup := by
    rw [folL_row k n F h.len]
    exact nd_map_of h.nd fun x _ y _ e => by omega
  rw [decide_eq_true h1, decide_eq_true h6, decide_eq_true h2, decide_eq_true h3]
  rfl
/-! a drawn rule: behind kin words each number once -/
structure DrR (k E e f : Nat) (l left : List Nat) : Prop where
  len : l.length = k * E
  fl : f ≤ k
  done : ∀ c, c < e → ∀ a b, a < k → b < k → (l.getD (a * E + c) 0 < k ∧ (l.getD (a * E + c) 0 = l.getD (b * E + c) 0 → a = b))
  now : ∀ a b, a < f → b < f → (l.getD (a * E + e) 0 < k ∧ l.getD (a * E + e) 0 ∉ left ∧ (l.getD (a * E + e) 0 = l.getD (b * E + e) 0 → a = b))
  nd : left.Nodup
  lt : ∀ x ∈ left, x < k
  ll : left.length + f = k
theorem DrR.start (k E : Nat) : DrR k E 0 0 (List.replicate (k * E) 0) (List.range k) := ⟨List.length_replicate, Nat.zero_le _, fun _ h => absurd h (Nat.not_lt_zero _), fun _ _ h => absurd h (Nat.not_lt_zero _), List.nodup_range, fun _ h => List.mem_range.mp h, by rw [List.length_range]; rfl⟩
theorem ix_inj {E a b c d : Nat} (hc : c < E) (hd : d < E) (h : a * E + c = b * E + d) : a = b ∧ c = d := code_inj hc hd h
theorem ix_lt {k E a c : Nat} (ha : a < k) (hc : c < E) : a * E + c < k * E := by
  have := Nat.mul_le_mul_right E (show a + 1 ≤ k by omega)
  rw [Nat.add_mul, Nat.one_mul] at this
  omega
theorem getD_set {l : List Nat} {i j x : Nat} (hi : i < l.length) : (l.set i x).getD j 0 = if j = i then x else l.getD j 0 := by
  rw [List.getD_eq_getElem?_getD, List.getD_eq_getElem?_getD]
  by_cases h : j = i
  · rw [if_pos h, h, List.getElem?_set_self hi]
    rfl
  · rw [if_neg h, List.getElem?_set_ne (Ne.symm h)]
theorem DrR.put {k E e f : Nat} {l left : List Nat} (h : DrR k E e f l left) (he : e < E) (hf : f < k) {i : Nat} (hi : i < left.length) : DrR k E e (f + 1) (l.set (f * E + e) left[i]) (left.eraseIdx i) := by
  have hix := ix_lt (k := k) hf he
  have hl : f * E + e < l.length := by rw [h.len]; exact hix
  have hx := h.lt _ (List.getElem_mem hi)
  have hem := fun c => erase_mem h.nd hi c
  refine ⟨by rw [List.length_set]; exact h.len, hf, fun c hc a b ha hb => ?_, fun a b ha hb => ?_, h.nd.sublist (List.eraseIdx_sublist ..), fun x hx => h.lt x (List.mem_of_mem_eraseIdx hx), ?_⟩
  · have hcE : c < E := by omega
    have na : a * E + c ≠ f * E + e := fun z => by have := (ix_inj hcE he z).2; omega
    have nb : b * E + c ≠ f * E + e := fun z => by have := (ix_inj hcE he z).2; omega
    rw [getD_set hl, getD_set hl, if_neg na, if_neg nb]
    exact h.done c hc a b ha hb
  · rw [getD_set hl, getD_set hl]
    by_cases ea : a = f
    · subst ea
      rw [if_pos rfl]
      refine ⟨hx, fun z => ((hem _).mp z).2 rfl, fun z => ?_⟩
      by_cases eb : b = a
      · exact eb.symm
      · rw [if_neg (fun y => eb (ix_inj he he y).1)] at z
        have := (h.now b b (by omega) (by omega)).2.1
        rw [← z] at this
        exact absurd (List.getElem_mem hi) this
    · rw [if_neg (fun y => ea (ix_inj he he y).1)]
      obtain ⟨n1, n2, _⟩ := h.now a a (by omega) (by omega)
      refine ⟨n1, fun z => n2 ((hem _).mp z).1, fun z => ?_⟩
      by_cases eb : b = f
      · subst eb
        rw [if_pos rfl] at z
        rw [z] at n2
        exact absurd (List.getElem_mem hi) n2
      · rw [if_neg (fun y => eb (ix_inj he he y).1)] at z
        exact (h.now a b (by omega) (by omega)).2.2 z
  · have := h.ll
    rw [List.length_eraseIdx_of_lt hi]
    omega
theorem DrR.next {k E e : Nat} {l left : List Nat} (h : DrR k E e k l left) : DrR k E (e + 1) 0 l (List.range k) := ⟨h.len, Nat.zero_le _, fun c hc a b ha hb => by
  by_cases hce : c = e
  · subst hce
    obtain ⟨n1, _, n3⟩ := h.now a b ha hb
    exact ⟨n1, n3⟩
  · exact h.done c (by omega) a b ha hb, fun _ _ h => absurd h (Nat.not_lt_zero _), List.nodup_range, fun _ h => List.mem_range.mp h, by rw [List.length_range]; rfl⟩
theorem even_kin {k n : Nat} (k0 : 0 < k) (n0 : 0 < n) {l : List Nat} (hl : l.length = k ^ n) (h : ∀ c, c < k ^ (n - 1) → ∀ a b, a < k → b < k → (l.getD (a * k ^ (n - 1) + c) 0 < k ∧ (l.getD (a * k ^ (n - 1) + c) 0 = l.getD (b * k ^ (n - 1) + c) 0 → a = b))) : EvenN k n l := by
  have hE : 0 < k ^ (n - 1) := Nat.pow_pos k0
  have hq : ∀ y, y < k ^ n → y / k ^ (n - 1) < k := fun y hy => Nat.div_lt_of_lt_mul (by rw [← pow_prd n0]; exact hy)
  have hy : ∀ y, y = y / k ^ (n - 1) * k ^ (n - 1) + y % k ^ (n - 1) := fun y => by rw [Nat.mul_comm]; exact (Nat.div_add_mod _ _).symm
  have lt : ∀ y, y < k ^ n → l.getD y 0 < k := fun y hy1 => by
    have h1 := (h _ (Nat.mod_lt y hE) _ _ (hq y hy1) (hq y hy1)).1
    rw [← hy y] at h1
    exact h1
  refine ⟨k0, n0, hl, fun c hc => ?_, nd_map_of List.nodup_range fun x hx y hy1 e => ?_⟩
  · obtain ⟨i, hi, rfl⟩ := List.getElem_of_mem hc
    have := lt i (by omega)
    rw [List.getD_eq_getElem?_getD, List.getElem?_eq_getElem hi] at this
    exact this
  · have hx := List.mem_range.mp hx
    have hy1 := List.mem_range.mp hy1
    unfold folN at e
    obtain ⟨e1, e2⟩ := code_inj (lt x hx) (lt y hy1) e
    rw [hy x, hy y, ← e1] at e2
    have := (h _ (Nat.mod_lt x hE) _ _ (hq x hx) (hq y hy1)).2 e2
    rw [hy x, hy y, this, e1]
def sgB (k : Nat) : PyData → Bool
  | .int i => decide (0 ≤ i) && decide (i < (k : Int))
  | _ => false
theorem all_sg {k : Nat} : ∀ {ds : List PyData}, (ds.map (sgB k)).all id = true → ∃ l : List Int, ds = l.map PyData.int ∧ ∀ x ∈ l, 0 ≤ x ∧ x < (k : Int)
  | [], _ => ⟨[], rfl, by simp⟩
  | d :: ds, h => by
    rw [List.map_cons, List.all_cons, Bool.and_eq_true] at h
    obtain ⟨l, rfl, hl⟩ := all_sg h.2
    cases d with
    | int i =>
      have h1 : (decide (0 ≤ i) && decide (i < (k : Int))) = true := h.1
      rw [Bool.and_eq_true, decide_eq_true_iff, decide_eq_true_iff] at h1
      refine ⟨i :: l, rfl, fun x hx => ?_⟩
      rcases List.mem_cons.mp hx with rfl | hx
      · exact h1
      · exact hl x hx
    | _ => exact absurd (show (false : Bool) = true from h.1) (by decide)
theorem sg_false {k n : Nat} {ds : List PyData} (h : (ds.map (sgB k)).all id = false) : rulB k n (.tuple ds) = false := by
  show (match allP int? ds with | some l => evnI k n l | none => false) = false
  cases e : allP int? ds with
  | none => rfl
  | some l =>
    have := allP_int e
    show evnI k n l = false
    unfold evnI
    have hb : ¬ ∀ x ∈ l, 0 ≤ x ∧ x < (k : Int) := fun z => by
      have : (ds.map (sgB k)).all id = true := by
        rw [this, List.all_eq_true]
        intro b hb
        rw [List.map_map] at hb
        obtain ⟨x, hx, rfl⟩ := List.mem_map.mp hb
        obtain ⟨z1, z2⟩ := z x hx
        show (decide (0 ≤ x) && decide (x < (k : Int))) = true
        rw [decide_eq_true z1, decide_eq_true z2]
        rfl
      rw [h] at this
      cases this
    rw [decide_eq_false hb]
    simp
theorem rep0 (c N : Nat) : rep3 [PyData.int (c : Nat)] (N : Int) = natD (List.replicate N c) := by
  unfold rep3 natD
  rw [Int.toNat_natCast, List.map_replicate]
  induction N with
  | zero => rfl
  | succ m ih => rw [List.replicate_succ, List.flatten_cons, ih]; rfl
theorem natD_set (l : List Nat) (i c : Nat) : (natD l).set i (.int (c : Nat)) = natD (l.set i c) := by unfold natD; rw [List.map_set]
theorem folL_take {k n : Nat} {l : List Int} {i : Nat} : (List.range (i + 1)).map (fun i => ((i % k ^ (n - 1) * k : Nat) : Int) + l.getD i 0) = (List.range i).map (fun i => ((i % k ^ (n - 1) * k : Nat) : Int) + l.getD i 0) ++ [((i % k ^ (n - 1) * k : Nat) : Int) + l.getD i 0] := by
  rw [List.range_succ, List.map_append]
  rfl
/-! ### cycles of an even rule -/
def itF (f : Nat → Nat) : Nat → Nat → Nat
  | 0, x => x
  | j + 1, x => f (itF f j x)
structure PermN (N : Nat) (f : Nat → Nat) : Prop where
  lt : ∀ x, x < N → f x < N
  inj : ∀ x y, x < N → y < N → f x = f y → x = y
theorem nd_injF {α β : Type} {f : α → β} : ∀ {l : List α}, (l.map f).Nodup → ∀ {x y : α}, x ∈ l → y ∈ l → f x = f y → x = y
  | [], _, _, _, h, _, _ => nomatch h
  | a :: l, h, x, y, hx, hy, e => by
    obtain ⟨h1, h2⟩ := List.nodup_cons.mp h
    rcases List.mem_cons.mp hx with hxa | hx
    · rcases List.mem_cons.mp hy with hya | hy
      · rw [hxa, hya]
      · exact absurd (List.mem_map.mpr ⟨y, hy, by rw [← e, hxa]⟩) h1
    · rcases List.mem_cons.mp hy with hya | hy
      · exact absurd (List.mem_map.mpr ⟨x, hx, by rw [e, hya]⟩) h1
      · exact nd_injF h2 hx hy e
theorem EvenN.at_lt {k n : Nat} {F : List Nat} (h : EvenN k n F) (x : Nat) : F.getD x 0 < k := by
  rw [List.getD_eq_getElem?_getD]
  cases e : F[x]? with
  | none => exact h.k0
  | some c => exact h.small c (List.mem_of_getElem? e)
theorem EvenN.perm {k n : Nat} {F : List Nat} (h : EvenN k n F) : PermN (k ^ n) (folN k n F) := by
  have hE : 0 < k ^ (n - 1) := Nat.pow_pos h.k0
  refine ⟨fun x _ => ?_, fun x y hx hy e => nd_injF h.nd (List.mem_range.mpr hx) (List.mem_range.mpr hy) e⟩
  unfold folN
  have h1 := h.at_lt x
  have h2 := Nat.mul_le_mul_right k (show x % k ^ (n - 1) + 1 ≤ k ^ (n - 1) from Nat.mod_lt x hE)
  rw [Nat.add_mul, Nat.one_mul, ← pow_prd h.n0] at h2
  omega
section
variable {N : Nat} {f : Nat → Nat}
theorem PermN.it_lt (h : PermN N f) {x : Nat} (hx : x < N) : ∀ j, itF f j x < N
  | 0 => hx
  | j + 1 => h.lt _ (h.it_lt hx j)
theorem itF_add (f : Nat → Nat) (x b : Nat) : ∀ a, itF f (a + b) x = itF f a (itF f b x)
  | 0 => by rw [Nat.zero_add]; rfl
  | a + 1 => by
    rw [show a + 1 + b = (a + b) + 1 by omega]
    show f (itF f (a + b) x) = f (itF f a (itF f b x))
    rw [itF_add f x b a]
theorem itF_succ (f : Nat → Nat) (x j : Nat) : itF f (j + 1) x = itF f j (f x) := itF_add f x 1 j
theorem PermN.it_inj (h : PermN N f) {x y : Nat} (hx : x < N) (hy : y < N) : ∀ j, itF f j x = itF f j y → x = y
  | 0, e => e
  | j + 1, e => h.it_inj hx hy j (h.inj _ _ (h.it_lt hx j) (h.it_lt hy j) e)
theorem PermN.cancel (h : PermN N f) {x i j : Nat} (hx : x < N) (hij : i ≤ j) (e : itF f i x = itF f j x) : itF f (j - i) x = x := by
  have e2 : itF f j x = itF f i (itF f (j - i) x) := by rw [← itF_add, show i + (j - i) = j by omega]
  rw [e2] at e
  exact (h.it_inj hx (h.it_lt hx _) i e).symm
structure Per (f : Nat → Nat) (x p : Nat) : Prop where
  pos : 0 < p
  back : itF f p x = x
  least : ∀ j, 0 < j → j < p → itF f j x ≠ x
def perd (f : Nat → Nat) (N x : Nat) : Nat := ((List.range N).find? fun j => decide (itF f (j + 1) x = x)).getD 0 + 1
theorem PermN.per (h : PermN N f) {x : Nat} (hx : x < N) : Per f x (perd f N x) ∧ perd f N x ≤ N := by
  have hex : ∃ j, j < N ∧ itF f (j + 1) x = x := by
    refine Classical.byContradiction fun no => ?_
    have hne : ∀ i j, i < j → j ≤ N → itF f i x ≠ itF f j x := fun i j hij hj e => no ⟨j - i - 1, by omega, by rw [show j - i - 1 + 1 = j - i by omega]; exact h.cancel hx (by omega) e⟩
    have nd : ((List.range (N + 1)).map fun j => itF f j x).Nodup := by
      unfold List.Nodup
      rw [List.pairwise_map]
      refine List.pairwise_lt_range.imp_of_mem fun {a b} ha hb hab => ?_
      exact hne a b hab (by have := List.mem_range.mp hb; omega)
    have := nodup_le nd fun y hy => by
      obtain ⟨j, _, rfl⟩ := List.mem_map.mp hy
      exact h.it_lt hx j
    rw [List.length_map, List.length_range] at this
    omega
  obtain ⟨j, hj, ej⟩ := hex
  unfold perd
  cases hf : (List.range N).find? fun j => decide (itF f (j + 1) x = x) with
  | none =>
    have := List.find?_eq_none.mp hf j (List.mem_range.mpr hj)
    simp [ej] at this
  | some q =>
    have h1 : itF f (q + 1) x = x := by simpa using List.find?_some hf
    have h2 := List.mem_range.mp (List.mem_of_find?_eq_some hf)
    refine ⟨⟨by simp, h1, fun i hi hiq e => ?_⟩, h2⟩
    simp only [Option.getD_some] at hiq
    obtain ⟨as, bs, e1, e2⟩ := (List.find?_eq_some_iff_append.mp hf).2
    have hal : as.length = q := by
      have := congrArg (fun l => l[as.length]?) e1
      simp at this
      have hlt : as.length < N := by
        have := congrArg List.length e1
        simp at this
        omega
      rw [List.getElem?_range hlt] at this
      simpa using this
    have hm : i - 1 ∈ as := by
      have hg : (List.range N)[i - 1]? = as[i - 1]? := by rw [e1, List.getElem?_append_left (by omega)]
      rw [List.getElem?_range (by omega)] at hg
      exact List.mem_of_getElem? hg.symm
    have := e2 _ hm
    rw [show i - 1 + 1 = i by omega] at this
    simp [e] at this
def orbN (f : Nat → Nat) (N x : Nat) : List Nat := (List.range (perd f N x)).map fun j => itF f j x
theorem orbN_len (f : Nat → Nat) (N x : Nat) : (orbN f N x).length = perd f N x := by unfold orbN; rw [List.length_map, List.length_range]
theorem orbN_at {x j : Nat} (hj : j < perd f N x) : (orbN f N x)[j]? = some (itF f j x) := by
  unfold orbN
  rw [List.getElem?_map, List.getElem?_range hj]
  rfl
theorem Per.mul {x p : Nat} (h : Per f x p) : ∀ q, itF f (p * q) x = x
  | 0 => rfl
  | q + 1 => by rw [Nat.mul_succ, itF_add, h.back, h.mul q]
theorem Per.mod {x p : Nat} (h : Per f x p) (j : Nat) : itF f j x = itF f (j % p) x := by
  conv => lhs; rw [← Nat.mod_add_div j p, itF_add, h.mul]
theorem PermN.mem_orb (h : PermN N f) {x y : Nat} (hx : x < N) : y ∈ orbN f N x ↔ ∃ j, itF f j x = y := by
  have P := (h.per hx).1
  unfold orbN
  rw [List.mem_map]
  constructor
  · rintro ⟨j, _, e⟩
    exact ⟨j, e⟩
  · rintro ⟨j, e⟩
    exact ⟨j % perd f N x, List.mem_range.mpr (Nat.mod_lt _ P.pos), by rw [← P.mod, e]⟩
theorem PermN.orb_nd (h : PermN N f) {x : Nat} (hx : x < N) : (orbN f N x).Nodup := by
  have P := (h.per hx).1
  unfold orbN List.Nodup
  rw [List.pairwise_map]
  refine List.pairwise_lt_range.imp_of_mem fun {a b} ha hb hab e => ?_
  have hb := List.mem_range.mp hb
  exact P.least (b - a) (by omega) (by omega) (h.cancel hx (by omega) e)
theorem PermN.orb_self (h : PermN N f) {x : Nat} (hx : x < N) : x ∈ orbN f N x := (h.mem_orb hx).mpr ⟨0, rfl⟩
theorem PermN.orb_step (h : PermN N f) {x y : Nat} (hx : x < N) (hy : y ∈ orbN f N x) (i : Nat) : itF f i y ∈ orbN f N x := by
  obtain ⟨j, rfl⟩ := (h.mem_orb hx).mp hy
  exact (h.mem_orb hx).mpr ⟨i + j, itF_add f x j i⟩
theorem PermN.orb_lt (h : PermN N f) {x y : Nat} (hx : x < N) (hy : y ∈ orbN f N x) : y < N := by
  obtain ⟨j, rfl⟩ := (h.mem_orb hx).mp hy
  exact h.it_lt hx j
theorem PermN.orb_symm (h : PermN N f) {x y : Nat} (hx : x < N) (hy : y ∈ orbN f N x) : x ∈ orbN f N y := by
  have P := (h.per hx).1
  have hyN := h.orb_lt hx hy
  obtain ⟨j, rfl⟩ := (h.mem_orb hx).mp hy
  refine (h.mem_orb hyN).mpr ⟨perd f N x - j % perd f N x, ?_⟩
  have hm := Nat.mod_lt j P.pos
  rw [P.mod j, ← itF_add, show perd f N x - j % perd f N x + j % perd f N x = perd f N x by omega, P.back]
theorem PermN.orb_trans (h : PermN N f) {x y z : Nat} (hx : x < N) (hy : y ∈ orbN f N x) (hz : z ∈ orbN f N y) : z ∈ orbN f N x := by
  obtain ⟨j, rfl⟩ := (h.mem_orb (h.orb_lt hx hy)).mp hz
  exact h.orb_step hx hy j
/-- the cycles, each from its least word on -/
def wcL (f : Nat → Nat) (N : Nat) : Nat → List (List Nat)
  | 0 => []
  | i + 1 => if i ∈ (wcL f N i).flatten then wcL f N i else wcL f N i ++ [orbN f N i]
theorem PermN.wc_mem (h : PermN N f) : ∀ i, i ≤ N → ∀ y, y ∈ (wcL f N i).flatten ↔ ∃ x, x < i ∧ y ∈ orbN f N x
  | 0, _, y => by simp [wcL]
  | i + 1, hi, y => by
    have ih := h.wc_mem i (by omega)
    have hiN : i < N := by omega
    unfold wcL
    by_cases c : i ∈ (wcL f N i).flatten
    · rw [if_pos c, ih]
      constructor
      · rintro ⟨x, hx, hy⟩
        exact ⟨x, by omega, hy⟩
      · rintro ⟨x, hx, hy⟩
        by_cases e : x = i
        · subst e
          obtain ⟨z, hz, hxz⟩ := (ih x).mp c
          exact ⟨z, hz, h.orb_trans (by omega) hxz hy⟩
        · exact ⟨x, by omega, hy⟩
    · rw [if_neg c, List.flatten_append, List.mem_append, ih]
      simp only [List.flatten_cons, List.flatten_nil, List.append_nil]
      constructor
      · rintro (⟨x, hx, hy⟩ | hy)
        · exact ⟨x, by omega, hy⟩
        · exact ⟨i, by omega, hy⟩
      · rintro ⟨x, hx, hy⟩
        by_cases e : x = i
        · subst e
          exact .inr hy
        · exact .inl ⟨x, by omega, hy⟩
theorem PermN.wc_apart (h : PermN N f) {i : Nat} (hi : i < N) (c : i ∉ (wcL f N i).flatten) : ∀ y ∈ orbN f N i, y ∉ (wcL f N i).flatten := fun y hy z => by
  obtain ⟨x, hx, hyx⟩ := (h.wc_mem i (by omega) y).mp z
  exact c ((h.wc_mem i (by omega) i).mpr ⟨x, hx, h.orb_trans (by omega) hyx (h.orb_symm hi hy)⟩)
theorem PermN.wc_nd (h : PermN N f) : ∀ i, i ≤ N → (wcL f N i).flatten.Nodup
  | 0, _ => List.nodup_nil
  | i + 1, hi => by
    unfold wcL
    by_cases c : i ∈ (wcL f N i).flatten
    · rw [if_pos c]
      exact h.wc_nd i (by omega)
    · rw [if_neg c, List.flatten_append]
      simp only [List.flatten_cons, List.flatten_nil, List.append_nil]
      have ap := h.wc_apart (show i < N by omega) c
      refine List.nodup_append.mpr ⟨h.wc_nd i (by omega), h.orb_nd (by omega), fun a ha b hb e => ?_⟩
      exact ap b hb (e ▸ ha)
theorem wc_each : ∀ i, ∀ c ∈ wcL f N i, ∃ x, x < i ∧ c = orbN f N x
  | 0, c, hc => nomatch hc
  | i + 1, c, hc => by
    unfold wcL at hc
    split at hc
    · obtain ⟨x, hx, e⟩ := wc_each i c hc
      exact ⟨x, by omega, e⟩
    · rcases List.mem_append.mp hc with hc | hc
      · obtain ⟨x, hx, e⟩ := wc_each i c hc
        exact ⟨x, by omega, e⟩
      · exact ⟨i, by omega, List.mem_singleton.mp hc⟩
theorem PermN.wc_perm (h : PermN N f) : (wcL f N N).flatten.Perm (List.range N) := by
  refine (List.perm_ext_iff_of_nodup (h.wc_nd N (Nat.le_refl _)) List.nodup_range).mpr fun y => ?_
  rw [h.wc_mem N (Nat.le_refl _), List.mem_range]
  constructor
  · rintro ⟨x, hx, hy⟩
    exact h.orb_lt hx hy
  · intro hy
    exact ⟨y, hy, h.orb_self hy⟩
theorem wc_len_le : ∀ i, (wcL f N i).length ≤ i
  | 0 => Nat.le_refl _
  | i + 1 => by
    have := wc_len_le i
    unfold wcL
    split
    · omega
    · rw [List.length_append, List.length_singleton]
      omega
end
/-! words of the cycles' rows -/
def hdsN (k n : Nat) (c : List Nat) : List Nat := c.map fun y => y / k ^ (n - 1)
theorem shift_low {k n : Nat} {F : List Nat} (k0 : 0 < k) (hF : ∀ x, F.getD x 0 < k) {y : Nat} : ∀ m, m < n → itF (folN k n F) m y / k ^ m = y % k ^ (n - m) ∨ m = 0
  | 0, _ => .inr rfl
  | m + 1, hm => by
    refine .inl ?_
    have e1 : itF (folN k n F) (m + 1) y = itF (folN k n F) m y % k ^ (n - 1) * k + F.getD (itF (folN k n F) m y) 0 := rfl
    have hc := hF (itF (folN k n F) m y)
    rw [e1, Nat.pow_succ, Nat.mul_comm (k ^ m), ← Nat.div_div_eq_div_mul, Nat.mul_comm _ k, Nat.mul_add_div k0, Nat.div_eq_of_lt hc, Nat.add_zero]
    have e2 : itF (folN k n F) m y % k ^ (n - 1) / k ^ m = itF (folN k n F) m y / k ^ m % k ^ (n - 1 - m) := by
      rw [show k ^ (n - 1) = k ^ m * k ^ (n - 1 - m) by rw [← Nat.pow_add]; congr 1; omega, Nat.mod_mul_right_div_self]
    rw [e2]
    rcases shift_low (n := n) (F := F) (y := y) k0 hF m (by omega) with h | h
    · rw [h, show n - (m + 1) = n - 1 - m by omega]
      exact Nat.mod_mod_of_dvd _ (Nat.pow_dvd_pow k (by omega))
    · subst h
      rw [Nat.pow_zero, Nat.div_one, show n - (0 + 1) = n - 1 - 0 by omega]
      rfl
theorem head_low {k n : Nat} {F : List Nat} (k0 : 0 < k) (hF : ∀ x, F.getD x 0 < k) {y m : Nat} (hm : m < n) (hy : y < k ^ n) : itF (folN k n F) m y / k ^ (n - 1) = y % k ^ (n - m) / k ^ (n - m - 1) := by
  have e : k ^ (n - 1) = k ^ m * k ^ (n - m - 1) := by rw [← Nat.pow_add]; congr 1; omega
  rw [e, ← Nat.div_div_eq_div_mul]
  rcases shift_low (n := n) (F := F) (y := y) k0 hF m hm with h | h
  · rw [h]
  · subst h
    rw [Nat.pow_zero, Nat.div_one, Nat.sub_zero, Nat.mod_eq_of_lt hy]
    rfl
theorem div_step {k a y : Nat} (k0 : 0 < k) : y / k ^ (a + 1) * k + y % k ^ (a + 1) / k ^ a = y / k ^ a := by
  have h1 := Nat.div_add_mod y (k ^ (a + 1))
  have hp : 0 < k ^ a := Nat.pow_pos k0
  conv => rhs; rw [← h1]
  rw [Nat.pow_succ, Nat.mul_assoc, Nat.mul_add_div hp, Nat.mul_comm k]
theorem EvenN.val {k n : Nat} {F : List Nat} (h : EvenN k n F) {x : Nat} (hx : x < k ^ n) (j : Nat) : ∀ m, m ≤ n → valS k (hdsN k n (orbN (folN k n F) (k ^ n) x)) j m = itF (folN k n F) j x / k ^ (n - m)
  | 0, _ => by
    rw [Nat.sub_zero, Nat.div_eq_of_lt (h.perm.it_lt hx j)]
    rfl
  | m + 1, hm => by
    have P := (h.perm.per hx).1
    have hl : (hdsN k n (orbN (folN k n F) (k ^ n) x)).length = perd (folN k n F) (k ^ n) x := by unfold hdsN; rw [List.length_map, orbN_len]
    have hcs : cS (hdsN k n (orbN (folN k n F) (k ^ n) x)) (j + m) = itF (folN k n F) (j + m) x / k ^ (n - 1) := by
      unfold cS
      rw [hl, List.getD_eq_getElem?_getD]
      unfold hdsN
      rw [List.getElem?_map, orbN_at (Nat.mod_lt _ P.pos), ← P.mod]
      rfl
    show valS k _ j m * k + cS _ (j + m) = _
    rw [h.val hx j m (by omega), hcs, Nat.add_comm j m, itF_add, head_low h.k0 h.at_lt (by omega) (h.perm.it_lt hx j)]
    have := div_step (k := k) (a := n - m - 1) (y := itF (folN k n F) j x) h.k0
    rw [show n - m - 1 + 1 = n - m by omega] at this
    rw [this, show n - (m + 1) = n - m - 1 by omega]
/-- the word of a round row of a cycle from a place on is the cycle's word -/
theorem EvenN.word {k n : Nat} {F : List Nat} (h : EvenN k n F) {x : Nat} (hx : x < k ^ n) (j : Nat) : valS k (hdsN k n (orbN (folN k n F) (k ^ n) x)) j n = itF (folN k n F) j x := by
  rw [h.val hx j n (Nat.le_refl _), Nat.sub_self, Nat.pow_zero, Nat.div_one]
/-- what one start adds -/
theorem PermN.turn {N : Nat} {f : Nat → Nat} (h : PermN N f) {i : Nat} (hi : i < N) : ∃ O : List Nat, (wcL f N (i + 1) = wcL f N i ++ (if O = [] then [] else [O])) ∧ (wcL f N (i + 1)).flatten = (wcL f N i).flatten ++ O ∧ O.length ≤ N ∧
    (∀ j, j < O.length → O[j]? = some (itF f j i) ∧ itF f j i ∉ (wcL f N i).flatten ++ O.take j) ∧ itF f O.length i ∈ (wcL f N i).flatten ++ O := by
  have P := h.per hi
  by_cases c : i ∈ (wcL f N i).flatten
  · have e : wcL f N (i + 1) = wcL f N i := by
      show (if i ∈ (wcL f N i).flatten then _ else _) = _
      rw [if_pos c]
    refine ⟨[], by rw [e]; simp, by rw [e]; simp, Nat.zero_le _, fun j hj => absurd hj (Nat.not_lt_zero _), ?_⟩
    simpa [itF] using c
  · have e : wcL f N (i + 1) = wcL f N i ++ [orbN f N i] := by
      show (if i ∈ (wcL f N i).flatten then _ else _) = _
      rw [if_neg c]
    have hl := orbN_len f N i
    have hne : orbN f N i ≠ [] := fun z => by
      rw [z] at hl
      have := P.1.pos
      simp at hl
      omega
    refine ⟨orbN f N i, by rw [e, if_neg hne], by rw [e, List.flatten_append]; simp, by rw [hl]; exact P.2, fun j hj => ?_, ?_⟩
    · rw [hl] at hj
      refine ⟨orbN_at hj, fun hm => ?_⟩
      rcases List.mem_append.mp hm with hm | hm
      · exact h.wc_apart hi c _ ((h.mem_orb hi).mpr ⟨j, rfl⟩) hm
      · obtain ⟨q, hq⟩ := List.mem_iff_getElem?.mp hm
        rw [List.getElem?_take] at hq
        split at hq
        · rename_i hqj
          have h1 := orbN_at (f := f) (N := N) (x := i) (show q < perd f N i by omega)
          rw [h1] at hq
          have nd := h.orb_nd hi
          have h2 := orbN_at (f := f) (N := N) (x := i) hj
          obtain ⟨l1, g1⟩ := List.getElem?_eq_some_iff.mp h1
          obtain ⟨l2, g2⟩ := List.getElem?_eq_some_iff.mp h2
          have := (List.getElem_inj nd).mp (g1.trans ((Option.some.inj hq).trans g2.symm))
          omega
        · cases hq
    · rw [hl, P.1.back]
      exact List.mem_append_right _ (h.orb_self hi)
theorem EvenN.word_dg {k n : Nat} {F : List Nat} (h : EvenN k n F) {x : Nat} (hx : x < k ^ n) (j : Nat) : valW (k : Int) (wdAt (rowN (hdsN k n (orbN (folN k n F) (k ^ n) x))) n j) = ((itF (folN k n F) j x : Nat) : Int) := by rw [wd_val, h.word hx]
theorem hds_small {k n : Nat} {c : List Nat} (n0 : 0 < n) (h : ∀ y ∈ c, y < k ^ n) : ∀ d ∈ hdsN k n c, d < k := fun d hd => by
  obtain ⟨y, hy, rfl⟩ := List.mem_map.mp hd
  exact Nat.div_lt_of_lt_mul (by rw [← pow_prd n0]; exact h y hy)

theorem sortD_tups (l : List (List Int)) : sortD (l.map tupI) = (l.mergeSort leI).map tupI := by
  unfold sortD
  refine (List.map_mergeSort (f := tupI) (r := leI) (s := PySem.W.dataLe false id) (l := l) fun a _ b _ => ?_).symm
  show leI a b = _
  rw [PySem.W.dataLe_eq]
  show leI a b = !PySem.W.dataLt (tupI b) (tupI a)
  rw [dataLt_tupI]
  rfl
theorem alike_any (l : List (List Int)) : PySem.W.AllAlike (l.map tupI) := by
  have go : ∀ (xs ys : List Int), PySem.W.alikeAll (xs.map PyData.int) (ys.map PyData.int) = true := fun xs => by
    induction xs with
    | nil => intro ys; simp [PySem.W.alikeAll]
    | cons x xs ih =>
      intro ys
      cases ys with
      | nil => simp [PySem.W.alikeAll]
      | cons y ys =>
        rw [List.map_cons, List.map_cons, PySem.W.alikeAll, ih ys]
        rfl
  intro d hd d' hd'
  obtain ⟨a, _, rfl⟩ := List.mem_map.mp hd
  obtain ⟨b, _, rfl⟩ := List.mem_map.mp hd'
  unfold tupI
  rw [PySem.W.alike]
  exact go a b
/-! ### the cells at the rests of the first numbers -/
theorem eqvAll_rows : ∀ a b : List (List Int), PyData.eqvAll (a.map tupI) (b.map tupI) = decide (a = b)
  | [], [] => by simp [PyData.eqvAll]
  | [], _ :: _ => by simp [PyData.eqvAll]
  | _ :: _, [] => by simp [PyData.eqvAll]
  | a :: as, b :: bs => by
    rw [List.map_cons, List.map_cons, PyData.eqvAll, eqvAll_rows as bs]
    have e : PyData.eqv (tupI a) (tupI b) = decide (a = b) := eqv_tints a b
    rw [e]
    by_cases h : a = b <;> by_cases h' : as = bs <;> simp [h, h']
theorem eqv_lrows (a b : List (List Int)) : PyData.eqv (.list (a.map tupI)) (.list (b.map tupI)) = decide (a = b) := by
  simp only [PyData.eqv]
  exact eqvAll_rows a b
theorem eqv_rows (a b : List (List Int)) : PyData.eqv (.tuple (a.map tupI)) (.tuple (b.map tupI)) = decide (a = b) := by
  simp only [PyData.eqv]
  exact eqvAll_rows a b
theorem canLay_rows : ∀ l : List (List Int), PyData.canLayAll0 (l.map tupI) = true ∧ PyData.depthAll (l.map tupI) ≤ 1
  | [] => by rw [List.map_nil]; unfold PyData.canLayAll0 PyData.depthAll; exact ⟨rfl, Nat.zero_le _⟩
  | r :: l => by
    obtain ⟨h1, h2⟩ := canLay_rows l
    rw [List.map_cons]
    unfold PyData.canLayAll0 PyData.depthAll
    have e1 : (tupI r).canLay0 = true := by
      unfold tupI PyData.canLay0
      exact canLayAll0_ints r
    have e2 : (tupI r).depth = 1 := by
      unfold tupI PyData.depth
      rw [depthAll_ints]
    rw [e1, h1, e2]
    exact ⟨rfl, by omega⟩
/-! ### cycles joined by exchanges -/
def swf (f : Nat → Nat) (x y z : Nat) : Nat := if z = x then f y else if z = y then f x else f z
def swF (F : List Nat) (x y : Nat) : List Nat := (F.set x (F.getD y 0)).set y (F.getD x 0)
theorem swF_at {F : List Nat} {x y : Nat} (hx : x < F.length) (hy : y < F.length) (z : Nat) : (swF F x y).getD z 0 = if z = y then F.getD x 0 else if z = x then F.getD y 0 else F.getD z 0 := by
  unfold swF
  rw [getD_set (by rw [List.length_set]; exact hy), getD_set hx]
theorem folN_sw {k n : Nat} {F : List Nat} {x y : Nat} (hx : x < F.length) (hy : y < F.length) (hk : x % k ^ (n - 1) = y % k ^ (n - 1)) (hne : x ≠ y) (z : Nat) : folN k n (swF F x y) z = swf (folN k n F) x y z := by
  unfold swf folN
  rw [swF_at hx hy]
  by_cases e1 : z = x
  · rw [if_pos e1, if_neg (by omega), if_pos e1, e1, hk]
  · rw [if_neg e1, if_neg e1]
    by_cases e2 : z = y
    · rw [if_pos e2, if_pos e2, e2, hk]
    · rw [if_neg e2, if_neg e2]
section
variable {N : Nat} {f : Nat → Nat}
theorem PermN.sw (h : PermN N f) {x y : Nat} (hx : x < N) (hy : y < N) : PermN N (swf f x y) := by
  refine ⟨fun z hz => ?_, fun a b ha hb e => ?_⟩
  · unfold swf
    split
    · exact h.lt y hy
    · split
      · exact h.lt x hx
      · exact h.lt z hz
  · unfold swf at e
    by_cases a1 : a = x <;> by_cases b1 : b = x
    · rw [a1, b1]
    · rw [if_pos a1, if_neg b1] at e
      by_cases b2 : b = y
      · rw [if_pos b2] at e
        have := h.inj _ _ hy hx e
        omega
      · rw [if_neg b2] at e
        exact absurd (h.inj _ _ hy hb e).symm b2
    · rw [if_neg a1, if_pos b1] at e
      by_cases a2 : a = y
      · rw [if_pos a2] at e
        have := h.inj _ _ hx hy e
        omega
      · rw [if_neg a2] at e
        exact absurd (h.inj _ _ ha hy e) a2
    · rw [if_neg a1, if_neg b1] at e
      by_cases a2 : a = y <;> by_cases b2 : b = y
      · rw [a2, b2]
      · rw [if_pos a2, if_neg b2] at e
        exact absurd (h.inj _ _ hx hb e).symm b1
      · rw [if_neg a2, if_pos b2] at e
        exact absurd (h.inj _ _ ha hx e) a1
      · rw [if_neg a2, if_neg b2] at e
        exact h.inj _ _ ha hb e
theorem swf_comm (f : Nat → Nat) {x y : Nat} (hne : x ≠ y) : swf f x y = swf f y x := by
  funext z
  unfold swf
  by_cases e1 : z = x
  · rw [if_pos e1, if_neg (by omega), if_pos e1]
  · rw [if_neg e1]
    by_cases e2 : z = y
    · rw [if_pos e2, if_pos e2]
    · rw [if_neg e2, if_neg e2, if_neg e1]
/-- behind x stands now what stood behind y, up to y -/
theorem PermN.sw_run (h : PermN N f) {x y : Nat} (hx : x < N) (hy : y < N) (hno : y ∉ orbN f N x) : ∀ j, 0 < j → j ≤ perd f N y → itF (swf f x y) j x = itF f j y
  | 0, h0, _ => absurd h0 (Nat.lt_irrefl _)
  | 1, _, _ => by
    show swf f x y x = f y
    unfold swf
    rw [if_pos rfl]
  | j + 2, _, hj => by
    have ih := h.sw_run hx hy hno (j + 1) (by omega) (by omega)
    show swf f x y (itF (swf f x y) (j + 1) x) = f (itF f (j + 1) y)
    rw [ih]
    have P := (h.per hy).1
    have n1 : itF f (j + 1) y ≠ y := P.least (j + 1) (by omega) (by omega)
    have n2 : itF f (j + 1) y ≠ x := fun e => hno (h.orb_symm hy ((h.mem_orb hy).mpr ⟨j + 1, e⟩))
    unfold swf
    rw [if_neg n2, if_neg n1]
theorem PermN.sw_half (h : PermN N f) {x y : Nat} (hx : x < N) (hy : y < N) (hno : y ∉ orbN f N x) {z : Nat} (hz : z ∈ orbN f N y) : z ∈ orbN (swf f x y) N x := by
  have P := (h.per hy).1
  obtain ⟨j, rfl⟩ := (h.mem_orb hy).mp hz
  refine ((h.sw hx hy).mem_orb hx).mpr ?_
  have hm := Nat.mod_lt j P.pos
  by_cases h0 : j % perd f N y = 0
  · refine ⟨perd f N y, ?_⟩
    rw [h.sw_run hx hy hno _ P.pos (Nat.le_refl _), P.back, P.mod j, h0]
    rfl
  · refine ⟨j % perd f N y, ?_⟩
    rw [h.sw_run hx hy hno _ (by omega) (by omega), ← P.mod j]
theorem PermN.sw_orb (h : PermN N f) {x y : Nat} (hx : x < N) (hy : y < N) (hno : y ∉ orbN f N x) {a b : Nat} (ha : a < N) (hb : b < N) :
    b ∈ orbN (swf f x y) N a ↔ b ∈ orbN f N a ∨ ((a ∈ orbN f N x ∨ a ∈ orbN f N y) ∧ (b ∈ orbN f N x ∨ b ∈ orbN f N y)) := by
  have g := h.sw hx hy
  have hne : x ≠ y := fun e => hno (e ▸ h.orb_self hx)
  have hno2 : x ∉ orbN f N y := fun z => hno (h.orb_symm hy z)
  have halfx : ∀ z, z ∈ orbN f N y → z ∈ orbN (swf f x y) N x := fun z hz => h.sw_half hx hy hno hz
  have halfy : ∀ z, z ∈ orbN f N x → z ∈ orbN (swf f x y) N y := fun z hz => by
    rw [swf_comm f hne]
    exact h.sw_half hy hx hno2 hz
  have yx : y ∈ orbN (swf f x y) N x := halfx y (h.orb_self hy)
  have all : ∀ z, (z ∈ orbN f N x ∨ z ∈ orbN f N y) → z ∈ orbN (swf f x y) N x := fun z hz => by
    rcases hz with hz | hz
    · exact g.orb_trans hx yx (halfy z hz)
    · exact halfx z hz
  constructor
  · intro hm
    obtain ⟨j, rfl⟩ := (g.mem_orb ha).mp hm
    clear hm
    have key : ∀ j, itF (swf f x y) j a ∈ orbN f N a ∨ ((a ∈ orbN f N x ∨ a ∈ orbN f N y) ∧ (itF (swf f x y) j a ∈ orbN f N x ∨ itF (swf f x y) j a ∈ orbN f N y)) := by
      intro j
      induction j with
      | zero => exact .inl (h.orb_self ha)
      | succ j ih =>
        have hbN := g.it_lt ha j
        show swf f x y (itF (swf f x y) j a) ∈ _ ∨ _ ∧ (swf f x y (itF (swf f x y) j a) ∈ _ ∨ swf f x y (itF (swf f x y) j a) ∈ _)
        generalize itF (swf f x y) j a = c at ih hbN
        by_cases c1 : c = x
        · have e : swf f x y c = f y := by unfold swf; rw [if_pos c1]
          rw [e]
          refine .inr ⟨?_, .inr (h.orb_step hy (h.orb_self hy) 1)⟩
          rcases ih with ih | ih
          · rw [c1] at ih
            exact .inl (h.orb_symm ha ih)
          · exact ih.1
        · by_cases c2 : c = y
          · have e : swf f x y c = f x := by unfold swf; rw [if_neg c1, if_pos c2]
            rw [e]
            refine .inr ⟨?_, .inl (h.orb_step hx (h.orb_self hx) 1)⟩
            rcases ih with ih | ih
            · rw [c2] at ih
              exact .inr (h.orb_symm ha ih)
            · exact ih.1
          · have e : swf f x y c = f c := by unfold swf; rw [if_neg c1, if_neg c2]
            rw [e]
            rcases ih with ih | ⟨i1, i2 | i2⟩
            · exact .inl (h.orb_step ha ih 1)
            · exact .inr ⟨i1, .inl (h.orb_step hx i2 1)⟩
            · exact .inr ⟨i1, .inr (h.orb_step hy i2 1)⟩
    exact key j
  · have second : ((a ∈ orbN f N x ∨ a ∈ orbN f N y) ∧ (b ∈ orbN f N x ∨ b ∈ orbN f N y)) → b ∈ orbN (swf f x y) N a := fun ⟨h1, h2⟩ => g.orb_trans ha (g.orb_symm hx (all a h1)) (all b h2)
    rintro (hm | hm)
    · by_cases hin : a ∈ orbN f N x ∨ a ∈ orbN f N y
      · refine second ⟨hin, ?_⟩
        rcases hin with i | i
        · exact .inl (h.orb_trans hx i hm)
        · exact .inr (h.orb_trans hy i hm)
      · obtain ⟨j, rfl⟩ := (h.mem_orb ha).mp hm
        refine (g.mem_orb ha).mpr ⟨j, ?_⟩
        clear hm second
        induction j with
        | zero => rfl
        | succ j ih =>
          have ih := ih (h.it_lt ha j)
          show swf f x y (itF (swf f x y) j a) = f (itF f j a)
          rw [ih]
          have n1 : itF f j a ≠ x := fun e => hin (.inl (h.orb_symm ha ((h.mem_orb ha).mpr ⟨j, e⟩)))
          have n2 : itF f j a ≠ y := fun e => hin (.inr (h.orb_symm ha ((h.mem_orb ha).mpr ⟨j, e⟩)))
          unfold swf
          rw [if_neg n1, if_neg n2]
    · exact second hm
/-- numbers that tell cycles apart -/
structure LotN (N : Nat) (f : Nat → Nat) (l : List Nat) : Prop where
  len : l.length = N
  same : ∀ a b, a < N → b < N → (l.getD a 0 = l.getD b 0 ↔ b ∈ orbN f N a)
def mrgL (l : List Nat) (x y : Nat) : List Nat := l.map fun v => if v = l.getD y 0 then l.getD x 0 else v
theorem mrgL_at {l : List Nat} {x y a : Nat} (ha : a < l.length) : (mrgL l x y).getD a 0 = if l.getD a 0 = l.getD y 0 then l.getD x 0 else l.getD a 0 := by
  unfold mrgL
  rw [List.getD_eq_getElem?_getD, List.getElem?_map, List.getD_eq_getElem?_getD (l := l) (i := a), List.getElem?_eq_getElem ha]
  rfl
theorem LotN.mrg (h : PermN N f) {l : List Nat} (T : LotN N f l) {x y : Nat} (hx : x < N) (hy : y < N) (hno : l.getD x 0 ≠ l.getD y 0) : LotN N (swf f x y) (mrgL l x y) := by
  have hno2 : y ∉ orbN f N x := fun z => hno ((T.same x y hx hy).mpr z)
  refine ⟨by unfold mrgL; rw [List.length_map]; exact T.len, fun a b ha hb => ?_⟩
  rw [h.sw_orb hx hy hno2 ha hb, mrgL_at (by rw [T.len]; exact ha), mrgL_at (by rw [T.len]; exact hb)]
  have oa : l.getD a 0 = l.getD y 0 ↔ a ∈ orbN f N y := by rw [← T.same y a hy ha]; exact eq_comm
  have ob : l.getD b 0 = l.getD y 0 ↔ b ∈ orbN f N y := by rw [← T.same y b hy hb]; exact eq_comm
  have xa : l.getD x 0 = l.getD a 0 ↔ a ∈ orbN f N x := T.same x a hx ha
  have xb : l.getD x 0 = l.getD b 0 ↔ b ∈ orbN f N x := T.same x b hx hb
  have ab := T.same a b ha hb
  rw [← oa, ← ob, ← xa, ← xb, ← ab]
  generalize l.getD a 0 = A at *
  generalize l.getD b 0 = B at *
  generalize l.getD x 0 = X at *
  generalize l.getD y 0 = Y at *
  by_cases a1 : A = Y <;> by_cases b1 : B = Y
  · rw [if_pos a1, if_pos b1]
    exact ⟨fun _ => .inl (by omega), fun _ => rfl⟩
  · rw [if_pos a1, if_neg b1]
    constructor
    · intro e
      exact .inr ⟨.inr a1, .inl e⟩
    · rintro (e | ⟨_, e | e⟩)
      · omega
      · exact e
      · exact absurd e b1
  · rw [if_neg a1, if_pos b1]
    constructor
    · intro e
      exact .inr ⟨.inl e.symm, .inr b1⟩
    · rintro (e | ⟨e | e, _⟩)
      · omega
      · exact e.symm
      · exact absurd e a1
  · rw [if_neg a1, if_neg b1]
    constructor
    · intro e
      exact .inl e
    · rintro (e | ⟨e1 | e1, e2 | e2⟩)
      · exact e
      · omega
      · exact absurd e2 b1
      · exact absurd e1 a1
      · exact absurd e1 a1
/-- as many different numbers as cycles -/
theorem LotN.vals (h : PermN N f) {l : List Nat} (T : LotN N f l) : ∀ i, i ≤ N → ((wcL f N i).map fun c => l.getD (c.headD 0) 0).Nodup ∧ ∀ v, v ∈ ((wcL f N i).map fun c => l.getD (c.headD 0) 0) ↔ ∃ y, y ∈ (wcL f N i).flatten ∧ v = l.getD y 0
  | 0, _ => ⟨List.nodup_nil, fun v => by simp [wcL]⟩
  | i + 1, hi => by
    obtain ⟨i1, i2⟩ := LotN.vals h T i (by omega)
    have hiN : i < N := by omega
    have hm := h.wc_mem i (by omega)
    unfold wcL
    by_cases c : i ∈ (wcL f N i).flatten
    · rw [if_pos c]
      exact ⟨i1, i2⟩
    · rw [if_neg c]
      have hhead : (orbN f N i).headD 0 = i := by
        have := orbN_at (f := f) (N := N) (x := i) (j := 0) (h.per hiN).1.pos
        rw [List.headD_eq_head?_getD, List.head?_eq_getElem?, this]
        rfl
      rw [List.map_append, List.map_cons, List.map_nil, hhead]
      have hnew : l.getD i 0 ∉ (wcL f N i).map fun c => l.getD (c.headD 0) 0 := fun z => by
        obtain ⟨y, hy, e⟩ := (i2 _).mp z
        obtain ⟨x, hx, hyx⟩ := (hm y).mp hy
        have hyN := h.orb_lt (show x < N by omega) hyx
        have := (T.same y i hyN hiN).mp e.symm
        exact c ((hm i).mpr ⟨x, hx, h.orb_trans (by omega) hyx this⟩)
      refine ⟨?_, fun v => ?_⟩
      · rw [List.perm_append_comm.nodup_iff]
        exact List.nodup_cons.mpr ⟨hnew, i1⟩
      · rw [List.mem_append, i2, List.mem_singleton, List.flatten_append]
        constructor
        · rintro (⟨y, hy, e⟩ | e)
          · exact ⟨y, List.mem_append_left _ hy, e⟩
          · exact ⟨i, List.mem_append_right _ (by simpa using h.orb_self hiN), e⟩
        · rintro ⟨y, hy, e⟩
          rcases List.mem_append.mp hy with hy | hy
          · exact .inl ⟨y, hy, e⟩
          · have hy : y ∈ orbN f N i := by simpa using hy
            exact .inr (e.trans ((T.same i y hiN (h.orb_lt hiN hy)).mpr hy).symm)
theorem mem_getD {l : List Nat} {v : Nat} : v ∈ l ↔ ∃ y, y < l.length ∧ v = l.getD y 0 := by
  constructor
  · intro h
    obtain ⟨y, hy, e⟩ := List.getElem_of_mem h
    exact ⟨y, hy, by rw [List.getD_eq_getElem?_getD, List.getElem?_eq_getElem hy, e]; rfl⟩
  · rintro ⟨y, hy, e⟩
    rw [List.getD_eq_getElem?_getD, List.getElem?_eq_getElem hy] at e
    rw [e]
    exact List.getElem_mem hy
theorem LotN.all (h : PermN N f) {l : List Nat} (T : LotN N f l) : ((wcL f N N).map fun c => l.getD (c.headD 0) 0).Nodup ∧ ∀ v, v ∈ ((wcL f N N).map fun c => l.getD (c.headD 0) 0) ↔ v ∈ l := by
  obtain ⟨h1, h2⟩ := T.vals h N (Nat.le_refl _)
  refine ⟨h1, fun v => ?_⟩
  rw [h2, mem_getD, T.len]
  constructor
  · rintro ⟨y, hy, e⟩
    exact ⟨y, List.mem_range.mp (h.wc_perm.mem_iff.mp hy), e⟩
  · rintro ⟨y, hy, e⟩
    exact ⟨y, h.wc_perm.mem_iff.mpr (List.mem_range.mpr hy), e⟩
theorem LotN.count (h : PermN N f) {l : List Nat} (T : LotN N f l) {L : List Nat} (nd : L.Nodup) (hL : ∀ v, v ∈ L ↔ v ∈ l) : L.length = (wcL f N N).length := by
  obtain ⟨h1, h2⟩ := T.all h
  have p : L.Perm ((wcL f N N).map fun c => l.getD (c.headD 0) 0) := (List.perm_ext_iff_of_nodup nd h1).mpr fun v => (hL v).trans (h2 v).symm
  rw [p.length_eq, List.length_map]
theorem LotN.less (h : PermN N f) {l : List Nat} (T : LotN N f l) {x y : Nat} (hx : x < N) (hy : y < N) (hno : l.getD x 0 ≠ l.getD y 0) : (wcL (swf f x y) N N).length + 1 = (wcL f N N).length := by
  obtain ⟨h1, h2⟩ := T.all h
  have T2 := T.mrg h hx hy hno
  have hyl : l.getD y 0 ∈ (wcL f N N).map fun c => l.getD (c.headD 0) 0 := (h2 _).mpr (mem_getD.mpr ⟨y, by rw [T.len]; exact hy, rfl⟩)
  have c2 := T2.count (h.sw hx hy) (h1.erase (l.getD y 0)) fun v => by
    rw [h1.mem_erase_iff, h2]
    unfold mrgL
    rw [List.mem_map]
    constructor
    · rintro ⟨n1, n2⟩
      exact ⟨v, n2, by rw [if_neg n1]⟩
    · rintro ⟨u, hu, e⟩
      by_cases c : u = l.getD y 0
      · rw [if_pos c] at e
        rw [← e]
        exact ⟨hno, mem_getD.mpr ⟨x, by rw [T.len]; exact hx, rfl⟩⟩
      · rw [if_neg c] at e
        rw [← e]
        exact ⟨c, hu⟩
  have c3 := List.length_erase_of_mem hyl
  have pos := List.length_pos_iff.mpr (List.ne_nil_of_mem hyl)
  rw [List.length_map] at c3 pos
  omega
end
/-- where kin words have one number each, all are one cycle -/
theorem LotN.one {k n : Nat} {F l : List Nat} (E : EvenN k n F) (T : LotN (k ^ n) (folN k n F) l) (hk : ∀ o, o < k ^ n → l.getD o 0 = l.getD (o % k ^ (n - 1)) 0) : (wcL (folN k n F) (k ^ n) (k ^ n)).length = 1 := by
  have k0 := E.k0
  have hP := E.perm
  have hpk := pow_prd (k := k) E.n0
  have hE : 0 < k ^ (n - 1) := Nat.pow_pos k0
  have hEN : k ^ (n - 1) ≤ k ^ n := by rw [hpk]; exact Nat.le_mul_of_pos_right _ k0
  have step : ∀ w, w < k ^ n → l.getD w 0 = l.getD (w / k) 0 := fun w hw => by
    have P := (hP.per hw).1
    have hyN := hP.it_lt hw (perd (folN k n F) (k ^ n) w - 1)
    have hfy : folN k n F (itF (folN k n F) (perd (folN k n F) (k ^ n) w - 1) w) = w := by
      have : itF (folN k n F) (perd (folN k n F) (k ^ n) w - 1 + 1) w = w := by
        rw [show perd (folN k n F) (k ^ n) w - 1 + 1 = perd (folN k n F) (k ^ n) w by have := P.pos; omega, P.back]
      exact this
    generalize itF (folN k n F) (perd (folN k n F) (k ^ n) w - 1) w = y at hyN hfy
    have h1 : l.getD y 0 = l.getD w 0 := (T.same y w hyN hw).mpr ((hP.mem_orb hyN).mpr ⟨1, hfy⟩)
    have h2 : w / k = y % k ^ (n - 1) := by
      rw [← hfy]
      unfold folN
      rw [Nat.mul_comm, Nat.mul_add_div k0, Nat.div_eq_of_lt (E.at_lt y), Nat.add_zero]
    rw [h2, ← hk y hyN, h1]
  have every : ∀ M w, w ≤ M → w < k ^ n → l.getD w 0 = l.getD 0 0 := by
    intro M
    induction M with
    | zero =>
      intro w hw _
      rw [show w = 0 by omega]
    | succ M ih =>
      intro w hw hwN
      by_cases hw0 : w = 0
      · rw [hw0]
      · by_cases hk1 : k = 1
        · subst hk1
          rw [Nat.one_pow] at hwN
          omega
        · have hlt : w / k < w := Nat.div_lt_self (by omega) (by omega)
          rw [step w hwN]
          exact ih _ (by omega) (by omega)
  have hN : 0 < k ^ n := Nat.pow_pos k0
  have c := T.count hP (L := [l.getD 0 0]) (by simp) fun v => by
    rw [List.mem_singleton, mem_getD, T.len]
    constructor
    · intro e
      exact ⟨0, hN, e⟩
    · rintro ⟨y, hy, e⟩
      rw [e, every y y (Nat.le_refl _) hy]
  exact c.symm
theorem EvenN.sw {k n : Nat} {F : List Nat} (E : EvenN k n F) {x y : Nat} (hx : x < k ^ n) (hy : y < k ^ n) (hk : x % k ^ (n - 1) = y % k ^ (n - 1)) (hne : x ≠ y) : EvenN k n (swF F x y) := by
  have hl := E.len
  have hP := E.perm.sw hx hy
  refine ⟨E.k0, E.n0, by unfold swF; rw [List.length_set, List.length_set]; exact hl, fun c hc => ?_, nd_map_of List.nodup_range fun a ha b hb e => ?_⟩
  · obtain ⟨i, hi, rfl⟩ := List.getElem_of_mem hc
    have h1 := swF_at (F := F) (x := x) (y := y) (by omega) (by omega) i
    rw [List.getD_eq_getElem?_getD, List.getElem?_eq_getElem hi] at h1
    have h2 : (swF F x y)[i] = if i = y then F.getD x 0 else if i = x then F.getD y 0 else F.getD i 0 := h1
    rw [h2]
    split
    · exact E.at_lt x
    · split
      · exact E.at_lt y
      · exact E.at_lt i
  · rw [folN_sw (by omega) (by omega) hk hne, folN_sw (by omega) (by omega) hk hne] at e
    exact hP.inj a b (List.mem_range.mp ha) (List.mem_range.mp hb) e
theorem folN_swf {k n : Nat} {F : List Nat} (E : EvenN k n F) {x y : Nat} (hx : x < k ^ n) (hy : y < k ^ n) (hk : x % k ^ (n - 1) = y % k ^ (n - 1)) (hne : x ≠ y) : folN k n (swF F x y) = swf (folN k n F) x y := by
  funext z
  exact folN_sw (by rw [E.len]; exact hx) (by rw [E.len]; exact hy) hk hne z
/-- exchanges that join unlike cycles, one after the other -/
def Jn (k n : Nat) : List Nat → List (Nat × Nat) → List Nat → Prop
  | F, [], G => F = G
  | F, (x, y) :: js, G => (x < y ∧ y < k ^ n ∧ x % k ^ (n - 1) = y % k ^ (n - 1) ∧ y ∉ orbN (folN k n F) (k ^ n) x) ∧ Jn k n (swF F x y) js G
theorem Jn.snoc {k n : Nat} {x y : Nat} : ∀ {js : List (Nat × Nat)} {F G : List Nat}, Jn k n F js G → (x < y ∧ y < k ^ n ∧ x % k ^ (n - 1) = y % k ^ (n - 1) ∧ y ∉ orbN (folN k n G) (k ^ n) x) → Jn k n F (js ++ [(x, y)]) (swF G x y)
  | [], F, G, h, c => by
    have h : F = G := h
    subst h
    exact ⟨c, rfl⟩
  | (a, b) :: js, F, G, h, c => ⟨h.1, Jn.snoc h.2 c⟩
/-! the program's joining, step by step -/
def lotC (f : Nat → Nat) (N : Nat) : List Nat := (List.range N).map fun y => (wcL f N N).findIdx fun c => decide (y ∈ c)
theorem wc_head {f : Nat → Nat} {N : Nat} : ∀ i, 0 < i → ∃ r, wcL f N i = orbN f N 0 :: r
  | 0, h => absurd h (Nat.lt_irrefl _)
  | 1, _ => ⟨[], by simp [wcL]⟩
  | i + 2, _ => by
    obtain ⟨r, e⟩ := wc_head (f := f) (N := N) (i + 1) (by omega)
    show ∃ r, (if i + 1 ∈ (wcL f N (i + 1)).flatten then wcL f N (i + 1) else wcL f N (i + 1) ++ [orbN f N (i + 1)]) = _
    split
    · exact ⟨r, e⟩
    · exact ⟨r ++ [orbN f N (i + 1)], by rw [e]; rfl⟩
theorem lotC_at {f : Nat → Nat} {N y : Nat} (hy : y < N) : (lotC f N).getD y 0 = (wcL f N N).findIdx fun c => decide (y ∈ c) := by
  unfold lotC
  rw [List.getD_eq_getElem?_getD, List.getElem?_map, List.getElem?_range hy]
  rfl
theorem PermN.lot_c {N : Nat} {f : Nat → Nat} (h : PermN N f) : LotN N f (lotC f N) := by
  refine ⟨by unfold lotC; rw [List.length_map, List.length_range], fun a b ha hb => ?_⟩
  rw [lotC_at ha, lotC_at hb]
  have ex : ∀ y, y < N → ∃ c ∈ wcL f N N, decide (y ∈ c) = true := fun y hy => by
    have := h.wc_perm.mem_iff.mpr (List.mem_range.mpr hy)
    obtain ⟨c, hc, hyc⟩ := List.mem_flatten.mp this
    exact ⟨c, hc, decide_eq_true hyc⟩
  have at_ : ∀ y, y < N → ∃ c x, (wcL f N N)[(wcL f N N).findIdx fun c => decide (y ∈ c)]? = some c ∧ y ∈ c ∧ x < N ∧ c = orbN f N x := fun y hy => by
    have hlt := List.findIdx_lt_length_of_exists (ex y hy)
    have hp := List.findIdx_getElem (w := hlt)
    obtain ⟨x, hx, e⟩ := wc_each N _ (List.getElem_mem hlt)
    exact ⟨_, x, List.getElem?_eq_getElem hlt, of_decide_eq_true hp, hx, e⟩
  constructor
  · intro e
    obtain ⟨c, x, h1, h2, hx, h3⟩ := at_ a ha
    obtain ⟨c', x', h1', h2', hx', h3'⟩ := at_ b hb
    rw [e] at h1
    rw [h1] at h1'
    cases h1'
    subst h3
    exact h.orb_trans ha (h.orb_symm hx h2) h2'
  · intro hm
    have key : ∀ c ∈ wcL f N N, decide (a ∈ c) = decide (b ∈ c) := fun c hc => by
      obtain ⟨x, hx, rfl⟩ := wc_each N c hc
      rw [Bool.eq_iff_iff, decide_eq_true_iff, decide_eq_true_iff]
      exact ⟨fun z => h.orb_trans hx z hm, fun z => h.orb_trans hx z (h.orb_symm ha hm)⟩
    have fcong : ∀ (l : List (List Nat)), (∀ c ∈ l, decide (a ∈ c) = decide (b ∈ c)) → l.findIdx (fun c => decide (a ∈ c)) = l.findIdx (fun c => decide (b ∈ c)) := by
      intro l
      induction l with
      | nil => intro _; rfl
      | cons c l ih =>
        intro hl
        rw [List.findIdx_cons, List.findIdx_cons, hl c List.mem_cons_self, ih fun d hd => hl d (List.mem_cons_of_mem _ hd)]
    exact fcong _ key
def jst (k n : Nat) (F : List Nat) : Nat → List Nat × List Nat × List (Nat × Nat)
  | 0 => (F, lotC (folN k n F) (k ^ n), [])
  | i + 1 => if (jst k n F i).2.1.getD ((k ^ (n - 1) + i) % k ^ (n - 1)) 0 ≠ (jst k n F i).2.1.getD (k ^ (n - 1) + i) 0
    then (swF (jst k n F i).1 ((k ^ (n - 1) + i) % k ^ (n - 1)) (k ^ (n - 1) + i), mrgL (jst k n F i).2.1 ((k ^ (n - 1) + i) % k ^ (n - 1)) (k ^ (n - 1) + i), (jst k n F i).2.2 ++ [((k ^ (n - 1) + i) % k ^ (n - 1), k ^ (n - 1) + i)]) else jst k n F i
structure JOk (k n : Nat) (F : List Nat) (i : Nat) (s : List Nat × List Nat × List (Nat × Nat)) : Prop where
  even : EvenN k n s.1
  lot : LotN (k ^ n) (folN k n s.1) s.2.1
  jn : Jn k n F s.2.2 s.1
  cnt : s.2.2.length + (wcL (folN k n s.1) (k ^ n) (k ^ n)).length = (wcL (folN k n F) (k ^ n) (k ^ n)).length
  kin : ∀ o, o < k ^ (n - 1) + i → s.2.1.getD o 0 = s.2.1.getD (o % k ^ (n - 1)) 0
theorem EvenN.j_st {k n : Nat} {F : List Nat} (E : EvenN k n F) : ∀ i, k ^ (n - 1) + i ≤ k ^ n → JOk k n F i (jst k n F i)
  | 0, _ => ⟨E, E.perm.lot_c, rfl, Nat.zero_add _, fun o ho => by rw [Nat.mod_eq_of_lt (show o < k ^ (n - 1) from ho)]⟩
  | i + 1, hi => by
    have ih := E.j_st i (by omega)
    have hE : 0 < k ^ (n - 1) := Nat.pow_pos E.k0
    have hx := Nat.mod_lt (k ^ (n - 1) + i) hE
    have ho : k ^ (n - 1) + i < k ^ n := by omega
    have hxo : (k ^ (n - 1) + i) % k ^ (n - 1) < k ^ (n - 1) + i := by omega
    have hmm : (k ^ (n - 1) + i) % k ^ (n - 1) % k ^ (n - 1) = (k ^ (n - 1) + i) % k ^ (n - 1) := Nat.mod_mod _ _
    show JOk k n F (i + 1) (if (jst k n F i).2.1.getD ((k ^ (n - 1) + i) % k ^ (n - 1)) 0 ≠ (jst k n F i).2.1.getD (k ^ (n - 1) + i) 0
      then (swF (jst k n F i).1 ((k ^ (n - 1) + i) % k ^ (n - 1)) (k ^ (n - 1) + i), mrgL (jst k n F i).2.1 ((k ^ (n - 1) + i) % k ^ (n - 1)) (k ^ (n - 1) + i), (jst k n F i).2.2 ++ [((k ^ (n - 1) + i) % k ^ (n - 1), k ^ (n - 1) + i)]) else jst k n F i)
    generalize jst k n F i = s at ih
    obtain ⟨G, l, js⟩ := s
    obtain ⟨e1, e2, e3, e4, e5⟩ := ih
    dsimp only at e1 e2 e3 e4 e5 ⊢
    generalize hX : (k ^ (n - 1) + i) % k ^ (n - 1) = X at *
    generalize hO : k ^ (n - 1) + i = O at *
    by_cases c : l.getD X 0 = l.getD O 0
    · rw [if_neg (fun z => z c)]
      refine ⟨e1, e2, e3, e4, fun o hoo => ?_⟩
      by_cases eo : o = O
      · rw [eo, hX, c]
      · exact e5 o (by omega)
    · rw [if_pos c]
      have hk : X % k ^ (n - 1) = O % k ^ (n - 1) := by rw [hmm, hX]
      have hsw := folN_swf e1 (show X < k ^ n by omega) ho hk (by omega)
      have hno : O ∉ orbN (folN k n G) (k ^ n) X := fun z => c ((e2.same X O (by omega) ho).mpr z)
      refine ⟨e1.sw (by omega) ho hk (by omega), ?_, e3.snoc ⟨hxo, ho, hk, hno⟩, ?_, fun o hoo => ?_⟩
      · show LotN _ (folN k n (swF G X O)) _
        rw [hsw]
        exact e2.mrg e1.perm (by omega) ho c
      · show (js ++ [(X, O)]).length + (wcL (folN k n (swF G X O)) _ _).length = _
        have := e2.less e1.perm (show X < k ^ n by omega) ho c
        rw [hsw, List.length_append, List.length_singleton]
        omega
      · show (mrgL l X O).getD o 0 = (mrgL l X O).getD (o % k ^ (n - 1)) 0
        have hol : o < l.length := by rw [e2.len]; omega
        have hml : o % k ^ (n - 1) < l.length := by
          have := Nat.mod_lt o hE
          rw [e2.len]
          omega
        rw [mrgL_at hol, mrgL_at hml]
        by_cases eo : o = O
        · rw [eo, hX, if_pos rfl, if_neg c]
        · rw [e5 o (by omega)]
/-- all joins made -/
def joinG (k n : Nat) (F : List Nat) : List Nat := (jst k n F (k ^ n - k ^ (n - 1))).1
def joinJ (k n : Nat) (F : List Nat) : List (Nat × Nat) := (jst k n F (k ^ n - k ^ (n - 1))).2.2
theorem EvenN.joins {k n : Nat} {F : List Nat} (E : EvenN k n F) : EvenN k n (joinG k n F) ∧ Jn k n F (joinJ k n F) (joinG k n F) ∧ (joinJ k n F).length + 1 = (wcL (folN k n F) (k ^ n) (k ^ n)).length ∧ wcL (folN k n (joinG k n F)) (k ^ n) (k ^ n) = [orbN (folN k n (joinG k n F)) (k ^ n) 0] := by
  have hEN : k ^ (n - 1) ≤ k ^ n := Nat.pow_le_pow_right E.k0 (by omega)
  have hN : 0 < k ^ n := Nat.pow_pos E.k0
  obtain ⟨e1, e2, e3, e4, e5⟩ := E.j_st (k ^ n - k ^ (n - 1)) (by omega)
  have h1 := LotN.one e1 e2 fun o ho => e5 o (by omega)
  obtain ⟨r, er⟩ := wc_head (f := folN k n (joinG k n F)) (N := k ^ n) (k ^ n) hN
  have h1' : (wcL (folN k n (joinG k n F)) (k ^ n) (k ^ n)).length = 1 := h1
  refine ⟨e1, e3, by rw [h1] at e4; exact e4, ?_⟩
  rw [er, List.length_cons] at h1'
  have : r = [] := List.eq_nil_of_length_eq_zero (by omega)
  rw [er, this]
/-- the least start of a cycle, of those below i -/
def lsF (f : Nat → Nat) (N i y : Nat) : Option Nat := (List.range i).find? fun x => decide (y ∈ orbN f N x)
theorem lsF_succ (f : Nat → Nat) (N i y : Nat) : lsF f N (i + 1) y = (lsF f N i y).or (if y ∈ orbN f N i then some i else none) := by
  unfold lsF
  rw [List.range_succ, List.find?_append]
  congr 1
  by_cases e : y ∈ orbN f N i
  · simp [List.find?_cons, e]
  · simp [List.find?_cons, e]
theorem PermN.lsF_none {N : Nat} {f : Nat → Nat} (h : PermN N f) {i : Nat} (hi : i ≤ N) (y : Nat) : lsF f N i y = none ↔ y ∉ (wcL f N i).flatten := by
  unfold lsF
  rw [List.find?_eq_none, h.wc_mem i hi]
  simp only [List.mem_range, decide_eq_true_eq, not_exists, not_and]
theorem PermN.lsF_next {N : Nat} {f : Nat → Nat} (h : PermN N f) {i : Nat} (hi : i < N) {O : List Nat} (hO : (wcL f N (i + 1)).flatten = (wcL f N i).flatten ++ O) (y : Nat) : lsF f N (i + 1) y = if y ∈ O then some i else lsF f N i y := by
  have n1 := h.lsF_none (show i ≤ N by omega) y
  have n2 := h.lsF_none (show i + 1 ≤ N by omega) y
  have nd := h.wc_nd (i + 1) (by omega)
  rw [hO] at nd n2
  rw [lsF_succ] at n2 ⊢
  by_cases hy : y ∈ O
  · rw [if_pos hy]
    have hno : y ∉ (wcL f N i).flatten := fun z => (List.nodup_append.mp nd).2.2 _ z _ hy rfl
    rw [n1.mpr hno]
    rw [n1.mpr hno] at n2
    by_cases e : y ∈ orbN f N i
    · rw [if_pos e]
      rfl
    · rw [if_neg e] at n2
      exact absurd (List.mem_append_right _ hy) (n2.mp rfl)
  · rw [if_neg hy]
    cases hl : lsF f N i y with
    | some x => rfl
    | none =>
      have h3 := n1.mp hl
      by_cases e : y ∈ orbN f N i
      · rw [if_pos e, hl] at n2
        have : y ∉ (wcL f N i).flatten ++ O := fun z => (List.mem_append.mp z).elim h3 hy
        exact absurd (n2.mpr this) (by simp)
      · rw [if_neg e]
        rfl
def lotL (f : Nat → Nat) (N : Nat) : List Nat := (List.range N).map fun y => (lsF f N N y).getD 0
theorem PermN.lot_l {N : Nat} {f : Nat → Nat} (h : PermN N f) : LotN N f (lotL f N) := by
  have at_ : ∀ y, y < N → (lotL f N).getD y 0 = (lsF f N N y).getD 0 := fun y hy => by
    unfold lotL
    rw [List.getD_eq_getElem?_getD, List.getElem?_map, List.getElem?_range hy]
    rfl
  refine ⟨by unfold lotL; rw [List.length_map, List.length_range], fun a b ha hb => ?_⟩
  rw [at_ a ha, at_ b hb]
  have ex : ∀ y, y < N → ∃ x, lsF f N N y = some x ∧ y ∈ orbN f N x ∧ x < N := fun y hy => by
    cases hl : lsF f N N y with
    | none =>
      have := (h.lsF_none (Nat.le_refl _) y).mp hl
      exact absurd (h.wc_perm.mem_iff.mpr (List.mem_range.mpr hy)) this
    | some x =>
      unfold lsF at hl
      exact ⟨x, rfl, by simpa using List.find?_some hl, List.mem_range.mp (List.mem_of_find?_eq_some hl)⟩
  constructor
  · intro e
    obtain ⟨x, h1, h2, hx⟩ := ex a ha
    obtain ⟨x', h1', h2', hx'⟩ := ex b hb
    rw [h1, h1'] at e
    have e : x = x' := e
    subst e
    exact h.orb_trans ha (h.orb_symm hx h2) h2'
  · intro hm
    have : lsF f N N a = lsF f N N b := by
      unfold lsF
      have key : ∀ (l : List Nat), (∀ x ∈ l, x < N) → l.find? (fun x => decide (a ∈ orbN f N x)) = l.find? (fun x => decide (b ∈ orbN f N x)) := by
        intro l
        induction l with
        | nil => intro _; rfl
        | cons x l ih =>
          intro hl
          have hx := hl x List.mem_cons_self
          have e : decide (a ∈ orbN f N x) = decide (b ∈ orbN f N x) := by
            rw [Bool.eq_iff_iff, decide_eq_true_iff, decide_eq_true_iff]
            exact ⟨fun z => h.orb_trans hx z hm, fun z => h.orb_trans hx z (h.orb_symm ha hm)⟩
          rw [List.find?_cons, List.find?_cons, e, ih fun y hy => hl y (List.mem_cons_of_mem _ hy)]
      exact key _ fun x hx => List.mem_range.mp hx
    rw [this]
/-! ### what shows a join -/
def kinN (k n : Nat) (p : Nat × Nat) : Prop := p.1 < p.2 ∧ p.2 < k ^ n ∧ p.1 % k ^ (n - 1) = p.2 % k ^ (n - 1)
def kinB (k n : Nat) : PyData → Bool
  | .tuple [.int a, .int b] => decide (0 ≤ a ∧ a < b ∧ b < ((k ^ n : Nat) : Int) ∧ (b - a) % ((k ^ (n - 1) : Nat) : Int) = 0)
  | _ => false
theorem kin_two (k n : Nat) (a b : Int) : kinB k n (.tuple [.int a, .int b]) = decide (0 ≤ a ∧ a < b ∧ b < ((k ^ n : Nat) : Int) ∧ (b - a) % ((k ^ (n - 1) : Nat) : Int) = 0) := rfl
theorem kin_mod {a b E : Nat} (h : a < b) : ((b : Int) - (a : Int)) % (E : Int) = 0 ↔ a % E = b % E := by
  rw [← Int.natCast_sub (by omega)]
  constructor
  · intro e
    have e : (b - a) % E = 0 := by omega
    obtain ⟨c, hc⟩ := Nat.dvd_of_mod_eq_zero e
    rw [show b = a + E * c by omega, Nat.add_mul_mod_self_left]
  · intro e
    have h2 : E * (a / E) + a % E = a := Nat.div_add_mod a E
    have h3 : E * (b / E) + b % E = b := Nat.div_add_mod b E
    have : b - a = E * (b / E - a / E) := by rw [Nat.mul_sub]; omega
    have h4 : (b - a) % E = 0 := by rw [this, Nat.mul_mod_right]
    omega
theorem kinB_pr {k n : Nat} {p : Nat × Nat} (h : kinN k n p) : kinB k n (prN p) = true := by
  unfold prN
  rw [kin_two, decide_eq_true_iff]
  exact ⟨by omega, by have := h.1; omega, by have := h.2.1; omega, (kin_mod h.1).mpr h.2.2⟩
theorem kinB_true {k n : Nat} {d : PyData} (h : kinB k n d = true) : ∃ p, d = prN p ∧ kinN k n p := by
  unfold kinB at h
  split at h
  · rename_i a b
    have h := of_decide_eq_true h
    obtain ⟨a', rfl⟩ := Int.eq_ofNat_of_zero_le h.1
    obtain ⟨b', rfl⟩ := Int.eq_ofNat_of_zero_le (show 0 ≤ b by omega)
    exact ⟨(a', b'), rfl, show a' < b' by omega, show b' < k ^ n by omega, (kin_mod (by omega)).mp h.2.2.2⟩
  · cases h
def joinsB (k n : Nat) : PyData → Bool
  | .tuple ds => ds.all (kinB k n)
  | _ => false
theorem joinsB_true {k n : Nat} {d : PyData} (h : joinsB k n d = true) : ∃ J : List (Nat × Nat), d = .tuple (J.map prN) ∧ ∀ p ∈ J, kinN k n p := by
  cases d with
  | tuple ds =>
    have key : ∀ ds : List PyData, ds.all (kinB k n) = true → ∃ J : List (Nat × Nat), ds = J.map prN ∧ ∀ p ∈ J, kinN k n p := by
      intro ds
      induction ds with
      | nil => intro _; exact ⟨[], rfl, fun _ h => absurd h List.not_mem_nil⟩
      | cons d ds ih =>
        intro h
        rw [List.all_cons, Bool.and_eq_true] at h
        obtain ⟨J, e, hJ⟩ := ih h.2
        obtain ⟨p, rfl, hp⟩ := kinB_true h.1
        refine ⟨p :: J, by rw [e]; rfl, fun q hq => ?_⟩
        rcases List.mem_cons.mp hq with rfl | hq
        · exact hp
        · exact hJ q hq
    obtain ⟨J, e, hJ⟩ := key ds h
    exact ⟨J, by rw [e], hJ⟩
  | _ => cases h
theorem prN_inj {a b : Nat × Nat} (h : prN a = prN b) : a = b := by
  obtain ⟨a1, a2⟩ := a
  obtain ⟨b1, b2⟩ := b
  have h := PyData.tuple.inj h
  injection h with h1 h2
  injection h2 with h2 _
  have h1 := PyData.int.inj h1
  have h2 := PyData.int.inj h2
  have h1 : ((a1 : Nat) : Int) = (b1 : Nat) := h1
  have h2 : ((a2 : Nat) : Int) = (b2 : Nat) := h2
  rw [show a1 = b1 by omega, show a2 = b2 by omega]
theorem prNs_inj : ∀ {a b : List (Nat × Nat)}, a.map prN = b.map prN → a = b
  | [], [], _ => rfl
  | [], _ :: _, h => by cases h
  | _ :: _, [], h => by cases h
  | x :: a, y :: b, h => by
    rw [List.map_cons, List.map_cons] at h
    injection h with h1 h2
    rw [prN_inj h1, prNs_inj h2]
theorem rowN_inj {a b : List Nat} (h : rowN a = rowN b) : a = b := by
  have h2 := congrArg (List.map Int.toNat) h
  unfold rowN at h2
  rw [List.map_map, List.map_map] at h2
  have e : (Int.toNat ∘ fun (c : Nat) => (c : Int)) = id := by funext x; exact Int.toNat_natCast x
  first | (rw [e, List.map_id, List.map_id] at h2; exact h2) | (simpa using h2)
theorem tupI_inj {a b : List Int} (h : tupI a = tupI b) : a = b := by
  have h := PyData.tuple.inj h
  have h2 : allP int? (a.map PyData.int) = allP int? (b.map PyData.int) := by rw [h]
  rw [allP_ints, allP_ints] at h2
  exact Option.some.inj h2
theorem Jn.kin {k n : Nat} : ∀ {J : List (Nat × Nat)} {F G : List Nat}, Jn k n F J G → ∀ p ∈ J, kinN k n p
  | [], _, _, _, p, hp => absurd hp List.not_mem_nil
  | (x, y) :: J, F, G, h, p, hp => by
    rcases List.mem_cons.mp hp with rfl | hp
    · exact ⟨h.1.1, h.1.2.1, h.1.2.2.1⟩
    · exact Jn.kin h.2 p hp
theorem Jn.even {k n : Nat} : ∀ {J : List (Nat × Nat)} {F G : List Nat}, Jn k n F J G → EvenN k n F → EvenN k n G
  | [], F, G, h, E => by
    have h : F = G := h
    rw [← h]
    exact E
  | (x, y) :: J, F, G, h, E => Jn.even h.2 (E.sw (by have := h.1.1; have := h.1.2.1; omega) h.1.2.1 h.1.2.2.1 (by have := h.1.1; omega))
theorem Jn.det {k n : Nat} : ∀ {J : List (Nat × Nat)} {F G H : List Nat}, Jn k n F J G → Jn k n F J H → G = H
  | [], F, G, H, h, h' => by
    have h : F = G := h
    have h' : F = H := h'
    rw [← h, ← h']
  | (x, y) :: J, F, G, H, h, h' => Jn.det h.2 h'.2
theorem Jn.split {k n : Nat} {x y : Nat} {B : List (Nat × Nat)} : ∀ {A : List (Nat × Nat)} {F G : List Nat}, Jn k n F (A ++ (x, y) :: B) G → ∃ H, Jn k n F A H ∧ y ∉ orbN (folN k n H) (k ^ n) x
  | [], F, G, h => ⟨F, rfl, h.1.2.2.2⟩
  | (a, b) :: A, F, G, h => by
    obtain ⟨H, h1, h2⟩ := Jn.split (A := A) h.2
    exact ⟨H, ⟨h.1, h1⟩, h2⟩
def ShwP (k n : Nat) (F : List Nat) (d : PyData) : Prop := ∃ J G, d = .tuple [tupI (rowN (hdsN k n (orbN (folN k n G) (k ^ n) 0))), .tuple (J.map prN)] ∧ Jn k n F J G ∧ wcL (folN k n G) (k ^ n) (k ^ n) = [orbN (folN k n G) (k ^ n) 0]
theorem orb_row {k n : Nat} {G : List Nat} (E : EvenN k n G) (k1 : k ≤ 600) (hp : k ^ n ≤ 600) : rowB (tupI (rowN (hdsN k n (orbN (folN k n G) (k ^ n) 0)))) = true := by
  have hN : 0 < k ^ n := Nat.pow_pos E.k0
  obtain ⟨P, hPN⟩ := E.perm.per hN
  have hl : (hdsN k n (orbN (folN k n G) (k ^ n) 0)).length = perd (folN k n G) (k ^ n) 0 := by
    unfold hdsN
    rw [List.length_map, orbN_len]
  refine rowB_good ⟨?_, ?_, fun x hx => ?_⟩
  · rw [rowN_len, hl]
    exact P.pos
  · rw [rowN_len, hl]
    omega
  · obtain ⟨c, hc, rfl⟩ := List.mem_map.mp hx
    have := hds_small E.n0 (fun y hy => E.perm.orb_lt hN hy) c hc
    omega
theorem ShwP.parts {k n : Nat} {F : List Nat} {d : PyData} (E : EvenN k n F) (k1 : k ≤ 600) (hp : k ^ n ≤ 600) (h : ShwP k n F d) : ∃ r js, d = .tuple [r, js] ∧ rowB r = true ∧ joinsB k n js = true := by
  obtain ⟨J, G, rfl, hJ, hW⟩ := h
  refine ⟨_, _, rfl, orb_row (hJ.even E) k1 hp, ?_⟩
  show (J.map prN).all (kinB k n) = true
  rw [List.all_eq_true]
  intro d hd
  obtain ⟨p, hp, rfl⟩ := List.mem_map.mp hd
  exact kinB_pr (hJ.kin p hp)
theorem EvenN.shw {k n : Nat} {F : List Nat} (E : EvenN k n F) : ShwP k n F (.tuple [tupI (rowN (hdsN k n (orbN (folN k n (joinG k n F)) (k ^ n) 0))), .tuple ((joinJ k n F).map prN)]) := by
  obtain ⟨_, h2, _, h4⟩ := E.joins
  exact ⟨_, _, rfl, h2, h4⟩
/-- the cycles of a rule are one row -/
theorem shw_end {k n : Nat} {F G : List Nat} {J : List (Nat × Nat)} {r : List Int} (E : EvenN k n F) (hJ : Jn k n F J G) : ((wcL (folN k n G) (k ^ n) (k ^ n)).map fun c => rowN (hdsN k n c)) = [r] ↔ ShwP k n F (.tuple [tupI r, .tuple (J.map prN)]) := by
  have hN : 0 < k ^ n := Nat.pow_pos E.k0
  constructor
  · intro h
    obtain ⟨s, e⟩ := wc_head (f := folN k n G) (N := k ^ n) (k ^ n) hN
    rw [e, List.map_cons] at h
    injection h with h1 h2
    have h2 : s = [] := List.map_eq_nil_iff.mp h2
    refine ⟨J, G, by rw [h1], hJ, by rw [e, h2]⟩
  · rintro ⟨J', G', e, hJ', hW⟩
    have e := PyData.tuple.inj e
    injection e with e1 e2
    injection e2 with e2 _
    have e2 := prNs_inj (PyData.tuple.inj e2)
    subst e2
    have e3 := hJ.det hJ'
    subst e3
    rw [hW, tupI_inj e1]
    rfl
theorem rowB_row {d : PyData} (h : rowB d = true) : ∃ r, d = tupI r ∧ Rw r := by
  cases d with
  | tuple ds =>
    rw [rowB_tup, Bool.and_eq_true, Bool.and_eq_true, decide_eq_true_eq, decide_eq_true_eq] at h
    obtain ⟨⟨h1, h2⟩, h3⟩ := h
    have : ∃ r : List Int, ds = r.map PyData.int ∧ ∀ x ∈ r, 0 ≤ x ∧ x < 600 := by
      clear h1 h2
      induction ds with
      | nil => exact ⟨[], rfl, fun _ h => absurd h List.not_mem_nil⟩
      | cons d ds ih =>
        rw [List.all_cons, Bool.and_eq_true] at h3
        obtain ⟨r, rfl, hr⟩ := ih h3.2
        have h4 := h3.1
        cases d with
        | int i =>
          have h4 : (decide (0 ≤ i) && decide (i < 600)) = true := h4
          rw [Bool.and_eq_true, decide_eq_true_eq, decide_eq_true_eq] at h4
          exact ⟨i :: r, rfl, fun x hx => by
            rcases List.mem_cons.mp hx with rfl | hx
            · exact h4
            · exact hr x hx⟩
        | _ => cases h4
    obtain ⟨r, rfl, hr⟩ := this
    rw [List.length_map] at h1 h2
    exact ⟨r, rfl, h1, h2, hr⟩
  | _ => cases h
/-! ### a full row is the one cycle of its own rule -/
theorem valS_head (k : Nat) (r : List Nat) : ∀ (m j : Nat), valS k r j (m + 1) = cS r j * k ^ m + valS k r (j + 1) m
  | 0, j => by
    show 0 * k + cS r (j + 0) = cS r j * 1 + 0
    rw [Nat.zero_mul, Nat.zero_add, Nat.mul_one, Nat.add_zero]
    rfl
  | m + 1, j => by
    show valS k r j (m + 1) * k + cS r (j + (m + 1)) = _
    rw [valS_head k r m j]
    show _ = cS r j * k ^ (m + 1) + (valS k r (j + 1) m * k + cS r (j + 1 + m))
    rw [Nat.add_mul, Nat.mul_assoc, ← Nat.pow_succ, Nat.add_assoc, show j + (m + 1) = j + 1 + m by omega]
theorem valS_top {k n : Nat} {r : List Nat} (k0 : 0 < k) (n0 : 0 < n) (hr : ∀ c ∈ r, c < k) (j : Nat) : valS k r j n / k ^ (n - 1) = cS r j := by
  obtain ⟨m, rfl⟩ : ∃ m, n = m + 1 := ⟨n - 1, by omega⟩
  rw [valS_head, Nat.add_sub_cancel, Nat.mul_comm, Nat.mul_add_div (Nat.pow_pos k0), Nat.div_eq_of_lt (valS_lt k0 hr (j + 1) m), Nat.add_zero]
theorem FulW.run {k n : Nat} {r : List Nat} (h : FulW k n r) (h0 : valS k r 0 n = 0) : ∀ j, itF (folN k n (rulW k n r)) j 0 = valS k r j n
  | 0 => h0.symm
  | j + 1 => by
    have hm := Nat.mod_lt j h.pos
    have e1 : valS k r (j + 1) n = valS k r (j % r.length + 1) n := by
      rw [← valS_mod k r (j + 1), ← valS_mod k r (j % r.length + 1)]
      congr 1
      rw [Nat.mod_add_mod]
    show folN k n (rulW k n r) (itF (folN k n (rulW k n r)) j 0) = _
    rw [h.run h0 j, ← valS_mod k r j, h.fol hm, e1]
theorem FulW.perd {k n : Nat} {r : List Nat} (h : FulW k n r) (h0 : valS k r 0 n = 0) : perd (folN k n (rulW k n r)) (k ^ n) 0 = k ^ n := by
  have hN : 0 < k ^ n := Nat.pow_pos h.k0
  obtain ⟨P, hP⟩ := h.even.perm.per hN
  refine Nat.le_antisymm hP (Nat.le_of_not_lt fun hlt => ?_)
  have hb := P.back
  rw [h.run h0] at hb
  have := h.inj _ 0 (by rw [h.len]; exact hlt) h.pos (hb.trans h0.symm)
  have := P.pos
  omega
theorem FulW.back {k n : Nat} {r : List Nat} (h : FulW k n r) (h0 : valS k r 0 n = 0) : hdsN k n (orbN (folN k n (rulW k n r)) (k ^ n) 0) = r := by
  unfold hdsN orbN
  rw [h.perd h0, List.map_map]
  refine List.ext_getElem (by rw [List.length_map, List.length_range, h.len]) fun j h1 h2 => ?_
  rw [List.getElem_map, List.getElem_range]
  show itF (folN k n (rulW k n r)) j 0 / k ^ (n - 1) = r[j]
  rw [h.run h0, valS_top h.k0 h.n0 h.small]
  unfold cS
  rw [Nat.mod_eq_of_lt h2, List.getD_eq_getElem?_getD, List.getElem?_eq_getElem h2]
  rfl
theorem wc_one {N : Nat} {f : Nat → Nat} (h : PermN N f) (hN : 0 < N) (hp : perd f N 0 = N) : wcL f N N = [orbN f N 0] := by
  obtain ⟨s, e⟩ := wc_head (f := f) (N := N) N hN
  have hl := h.wc_perm.length_eq
  rw [e, List.flatten_cons, List.length_append, orbN_len, hp, List.length_range] at hl
  have hs : s = [] := by
    cases s with
    | nil => rfl
    | cons c s =>
      have hc : c ∈ wcL f N N := by rw [e]; exact List.mem_cons_of_mem _ List.mem_cons_self
      obtain ⟨x, hx, rfl⟩ := wc_each N c hc
      have := (h.per hx).1.pos
      rw [List.flatten_cons, List.length_append, orbN_len] at hl
      omega
  rw [e, hs]
theorem FulW.one {k n : Nat} {r : List Nat} (h : FulW k n r) (h0 : valS k r 0 n = 0) : wcL (folN k n (rulW k n r)) (k ^ n) (k ^ n) = [orbN (folN k n (rulW k n r)) (k ^ n) 0] := wc_one h.even.perm (Nat.pow_pos h.k0) (h.perd h0)
theorem FulW.alone {k n : Nat} {r : List Nat} (h : FulW k n r) (h0 : valS k r 0 n = 0) : joinJ k n (rulW k n r) = [] ∧ joinG k n (rulW k n r) = rulW k n r := by
  obtain ⟨_, h2, h3, _⟩ := h.even.joins
  rw [h.one h0, List.length_singleton] at h3
  have e : joinJ k n (rulW k n r) = [] := List.eq_nil_of_length_eq_zero (by omega)
  rw [e] at h2
  have h2 : rulW k n r = joinG k n (rulW k n r) := h2
  exact ⟨e, h2.symm⟩
/-- one cycle alone is a full row -/
theorem EvenN.row_ful {k n : Nat} {G : List Nat} (E : EvenN k n G) (hW : wcL (folN k n G) (k ^ n) (k ^ n) = [orbN (folN k n G) (k ^ n) 0]) : FulW k n (hdsN k n (orbN (folN k n G) (k ^ n) 0)) ∧ valS k (hdsN k n (orbN (folN k n G) (k ^ n) 0)) 0 n = 0 ∧ rulW k n (hdsN k n (orbN (folN k n G) (k ^ n) 0)) = G := by
  have k0 := E.k0
  have n0 := E.n0
  have hN : 0 < k ^ n := Nat.pow_pos k0
  have hP := E.perm
  have hp := hP.wc_perm
  rw [hW, List.flatten_singleton] at hp
  have hl := hp.length_eq
  rw [List.length_range, orbN_len] at hl
  have hR : (hdsN k n (orbN (folN k n G) (k ^ n) 0)).length = k ^ n := by
    unfold hdsN
    rw [List.length_map, orbN_len, hl]
  have hv := fun j => E.word hN j
  have hsm : ∀ c ∈ hdsN k n (orbN (folN k n G) (k ^ n) 0), c < k := hds_small n0 fun y hy => hP.orb_lt hN hy
  have F : FulW k n (hdsN k n (orbN (folN k n G) (k ^ n) 0)) := by
    refine ⟨k0, n0, hsm, hR, fun a b ha hb e => ?_, fun y hy => ?_⟩
    · rw [hv, hv] at e
      rw [hR, ← hl] at ha hb
      have h1 := orbN_at (f := folN k n G) (N := k ^ n) ha
      have h2 := orbN_at (f := folN k n G) (N := k ^ n) hb
      obtain ⟨l1, g1⟩ := List.getElem?_eq_some_iff.mp h1
      obtain ⟨l2, g2⟩ := List.getElem?_eq_some_iff.mp h2
      exact (List.getElem_inj (hP.orb_nd hN)).mp (g1.trans (e.trans g2.symm))
    · have hy2 := hp.mem_iff.mpr (List.mem_range.mpr hy)
      unfold orbN at hy2
      obtain ⟨j, hj, e⟩ := List.mem_map.mp hy2
      have hj := List.mem_range.mp hj
      exact ⟨j, by rw [hR, ← hl]; exact hj, by rw [hv]; exact e⟩
  refine ⟨F, by rw [hv]; rfl, ?_⟩
  unfold rulW
  refine List.ext_getElem (by rw [List.length_map, List.length_range, E.len]) fun y h1 h2 => ?_
  rw [List.getElem_map, List.getElem_range]
  have hy : y < k ^ n := by rw [← E.len]; exact h2
  obtain ⟨a, ha, e⟩ := F.hit y hy
  have h3 : nextW k n (hdsN k n (orbN (folN k n G) (k ^ n) 0)) y = cS (hdsN k n (orbN (folN k n G) (k ^ n) 0)) (a + n) := by
    rw [← e]
    exact F.next ha
  rw [h3]
  have h4 : valS k (hdsN k n (orbN (folN k n G) (k ^ n) 0)) (a + 1) n = y % k ^ (n - 1) * k + G.getD y 0 := by
    rw [hv]
    rw [hv] at e
    show folN k n G (itF (folN k n G) a 0) = _
    rw [e]
    rfl
  obtain ⟨m, rfl⟩ : ∃ m, n = m + 1 := ⟨n - 1, by omega⟩
  have h5 : valS k (hdsN k (m + 1) (orbN (folN k (m + 1) G) (k ^ (m + 1)) 0)) (a + 1) (m + 1) = valS k (hdsN k (m + 1) (orbN (folN k (m + 1) G) (k ^ (m + 1)) 0)) (a + 1) m * k + cS (hdsN k (m + 1) (orbN (folN k (m + 1) G) (k ^ (m + 1)) 0)) (a + 1 + m) := rfl
  rw [h5] at h4
  have h6 := congrArg (· % k) h4
  have hg : G.getD y 0 = G[y] := by
    rw [List.getD_eq_getElem?_getD, List.getElem?_eq_getElem h2]
    rfl
  have hgl := E.at_lt y
  have hcl := cS_lt k0 hsm (a + 1 + m)
  rw [Nat.mul_comm, Nat.mul_add_mod, Nat.mod_eq_of_lt hcl, Nat.mul_comm, Nat.mul_add_mod, Nat.mod_eq_of_lt hgl] at h6
  rw [show a + (m + 1) = a + 1 + m by omega, h6, hg]
/-- what a full row is told to be -/
theorem FulW.told {k n : Nat} {r : List Nat} (h : FulW k n r) : fulR (rowN r) k n = true ∧ twR (rowN r) n = .none := by
  have nd : (wordsR (rowN r) n (rowN r).length).Nodup := by
    unfold wordsR
    refine nd_map_of List.nodup_range fun a ha b hb e => ?_
    have ha := List.mem_range.mp ha
    have hb := List.mem_range.mp hb
    rw [rowN_len] at ha hb
    have h1 := wd_val k r a n
    rw [e, wd_val] at h1
    exact h.inj a b ha hb (by omega)
  refine ⟨?_, (twR_none _ _).mpr nd⟩
  unfold fulR
  rw [decide_eq_true (show (rowN r).length = k ^ n by rw [rowN_len, h.len]), decide_eq_true nd, decide_eq_true]
  · rfl
  · intro x hx
    obtain ⟨c, hc, rfl⟩ := List.mem_map.mp hx
    have := h.small c hc
    omega
/-- its word at a place is the word of noughts -/
theorem word_nil {k n : Nat} {r : List Nat} (k0 : 0 < k) (hr : ∀ c ∈ r, c < k) (a : Nat) : wdAt (rowN r) n a = List.replicate n 0 ↔ valS k r a n = 0 := by
  have hw := wd_wd k0 hr n a
  have hv := wd_val k r a n
  have hz : Wd (k : Int) n (List.replicate n (0 : Int)) := ⟨List.length_replicate, fun x hx => by
    rw [(List.mem_replicate.mp hx).2]
    omega⟩
  have hz0 : valW (k : Int) (List.replicate n (0 : Int)) = 0 := by
    clear hz hv hw
    induction n with
    | zero => rfl
    | succ n ih =>
      rw [List.replicate_succ']
      first | (rw [valW_snoc, ih]; omega) | (simp [valW, ih])
  constructor
  · intro e
    rw [e, hz0] at hv
    omega
  · intro e
    rw [e] at hv
    exact valW_injF (by omega) hw hz (by rw [hv, hz0]; rfl)

/-- rows in which each word stands but once, by numbers and marks -/
def wchk (k n : Nat) : Nat → List Nat → Nat → Bool
  | 0, _, _ => true
  | c + 1, l, mk => !(mk.testBit ((l.take n).foldl (fun a x => a * k + x) 0)) && wchk k n c l.tail (mk ||| (1 <<< ((l.take n).foldl (fun a x => a * k + x) 0)))
theorem wchk_un {k n : Nat} : ∀ (c : Nat) (l : List Nat) (mk : Nat), wchk k n c l mk = true → (∀ p, p < c → mk.testBit (((l.drop p).take n).foldl (fun a x => a * k + x) 0) = false) ∧
    ∀ p q, p < q → q < c → ((l.drop p).take n).foldl (fun a x => a * k + x) 0 ≠ ((l.drop q).take n).foldl (fun a x => a * k + x) 0
  | 0, _, _, _ => ⟨fun p hp => absurd hp (Nat.not_lt_zero _), fun p q _ hq => absurd hq (Nat.not_lt_zero _)⟩
  | c + 1, l, mk, h => by
    unfold wchk at h
    rw [Bool.and_eq_true, Bool.not_eq_true'] at h
    obtain ⟨h1, h2⟩ := h
    obtain ⟨i1, i2⟩ := wchk_un c l.tail _ h2
    have ht : ∀ p, l.tail.drop p = l.drop (p + 1) := fun p => by rw [List.drop_tail]
    have i1' : ∀ p, p < c → mk.testBit (((l.drop (p + 1)).take n).foldl (fun a x => a * k + x) 0) = false ∧ (l.take n).foldl (fun a x => a * k + x) 0 ≠ ((l.drop (p + 1)).take n).foldl (fun a x => a * k + x) 0 := fun p hp => by
      have := i1 p hp
      rw [ht, Nat.testBit_or, Bool.or_eq_false_iff] at this
      refine ⟨this.1, fun z => ?_⟩
      have h3 := this.2
      rw [← z, Nat.testBit_shiftLeft] at h3
      simp at h3
    refine ⟨fun p hp => ?_, fun p q hpq hq => ?_⟩
    · cases p with
      | zero => exact h1
      | succ p => exact (i1' p (by omega)).1
    · cases q with
      | zero => omega
      | succ q =>
        cases p with
        | zero => exact (i1' q (by omega)).2
        | succ p =>
          have := i2 p q (by omega) (by omega)
          rw [ht, ht] at this
          exact this

theorem shaped_lints9 (ws : List Int) : SeqAt.shaped (.list (ws.map PyData.int)) = true := shaped_l (m := 0) (by decide) fun x hx => by
  obtain ⟨p, _, rfl⟩ := List.mem_map.mp hx
  exact ⟨rfl, Nat.le_refl _⟩
theorem eqv_ints_ne {ws : List Int} (h : ws ≠ []) : PyData.eqv (.list (ws.map PyData.int)) (.list []) = false := by
  cases ws with
  | nil => exact absurd rfl h
  | cons w ws => simp [PyData.eqv, PyData.eqvAll]
theorem nodup_len {α : Type} [DecidableEq α] : ∀ {l L : List α}, L.Nodup → (∀ x, x ∈ L ↔ x ∈ l) → L.length ≤ l.length ∧ (L.length = l.length ↔ l.Nodup)
  | [], L, _, h => by
    have : L = [] := List.eq_nil_iff_forall_not_mem.mpr fun x hx => by simpa using (h x).mp hx
    rw [this]
    simp
  | x :: l, L, nd, h => by
    by_cases hx : x ∈ l
    · obtain ⟨h1, _⟩ := nodup_len (l := l) nd fun y => by
        rw [h y]
        constructor
        · intro hy
          rcases List.mem_cons.mp hy with rfl | hy
          · exact hx
          · exact hy
        · exact List.mem_cons_of_mem _
      rw [List.length_cons, List.nodup_cons]
      refine ⟨by omega, ⟨fun e => by omega, fun e => absurd hx e.1⟩⟩
    · have hxL : x ∈ L := (h x).mpr List.mem_cons_self
      obtain ⟨h1, h2⟩ := nodup_len (l := l) (L := L.erase x) (nd.erase x) fun y => by
        rw [nd.mem_erase_iff, h y]
        constructor
        · rintro ⟨h1, h2⟩
          exact (List.mem_cons.mp h2).resolve_left h1
        · intro hy
          exact ⟨fun z => hx (z ▸ hy), List.mem_cons_of_mem _ hy⟩
      have hl := List.length_erase_of_mem hxL
      have hpos : 0 < L.length := List.length_pos_iff.mpr (List.ne_nil_of_mem hxL)
      rw [List.length_cons, List.nodup_cons]
      refine ⟨by omega, ?_⟩
      rw [← h2]
      constructor
      · intro e
        exact ⟨hx, by omega⟩
      · rintro ⟨_, e⟩
        omega
/-! ### no full row is less than the least one: a kernel check along it -/
def deadB (k E U : Nat) : Nat → Nat → Bool
  | 0, w => U.testBit w
  | f + 1, w => U.testBit w || (List.range k).all fun e => deadB k E U f (w % E * k + e)
def minB (k E f : Nat) : List Nat → Nat → Nat → Bool
  | [], _, _ => true
  | x :: l, U, c => ((U >>> (c * k)) % 2 ^ x + 1 == 2 ^ x || (List.range x).all fun d => deadB k E U f (c * k + d)) && minB k E f l (U ||| 1 <<< (c * k + x)) ((c * k + x) % E)
theorem valS_next {k n : Nat} {r : List Nat} (k0 : 0 < k) (n0 : 0 < n) (hr : ∀ c ∈ r, c < k) (q : Nat) : valS k r q n % k ^ (n - 1) = valS k r (q + 1) (n - 1) := by
  obtain ⟨m, rfl⟩ : ∃ m, n = m + 1 := ⟨n - 1, by omega⟩
  rw [valS_head, Nat.add_sub_cancel, Nat.mul_comm, Nat.mul_add_mod, Nat.mod_eq_of_lt (valS_lt k0 hr (q + 1) m)]
theorem dead_no {k n : Nat} {r : List Nat} (F : FulW k n r) (U q0 : Nat) (hU : ∀ w, U.testBit w = true → ∃ a, a < q0 ∧ valS k r a n = w) : ∀ (f q w : Nat), q0 ≤ q → q + f < r.length → valS k r q n = w → deadB k (k ^ (n - 1)) U f w = true → False := by
  have used : ∀ (q w : Nat), q0 ≤ q → q < r.length → valS k r q n = w → U.testBit w = true → False := fun q w hq hl hv h => by
    obtain ⟨a, ha, e⟩ := hU w h
    have := F.inj a q (by omega) hl (e.trans hv.symm)
    omega
  intro f
  induction f with
  | zero => exact fun q w hq hl hv h => used q w hq (by omega) hv h
  | succ f ih =>
    intro q w hq hl hv h
    unfold deadB at h
    rw [Bool.or_eq_true] at h
    rcases h with h | h
    · exact used q w hq (by omega) hv h
    · have h2 := List.all_eq_true.mp h (cS r (q + n)) (List.mem_range.mpr (cS_lt F.k0 F.small _))
      refine ih (q + 1) _ (by omega) (by omega) ?_ h2
      rw [← hv, valS_next F.k0 F.n0 F.small]
      obtain ⟨m, rfl⟩ : ∃ m, n = m + 1 := ⟨n - 1, by have := F.n0; omega⟩
      show valS k r (q + 1) m * k + cS r (q + 1 + m) = valS k r (q + 1) m * k + cS r (q + (m + 1))
      rw [show q + 1 + m = q + (m + 1) by omega]
theorem mask_all {U s x d : Nat} (h : ((U >>> s) % 2 ^ x + 1 == 2 ^ x) = true) (hd : d < x) : U.testBit (s + d) = true := by
  have h := eq_of_beq h
  have e : (U >>> s) % 2 ^ x = 2 ^ x - 1 := by omega
  have h2 := congrArg (fun z => z.testBit d) e
  simp only [Nat.testBit_mod_two_pow, Nat.testBit_two_pow_sub_one, Nat.testBit_shiftRight, hd, decide_true, Bool.true_and] at h2
  exact h2
theorem min_walk {k n : Nat} {r : List Nat} (F : FulW k n r) : ∀ (l : List Nat) (p U c : Nat), p + l.length = r.length → n ≤ p → c = valS k r (p + 1 - n) (n - 1) → (∀ w, U.testBit w = true → ∃ a, a < p + 1 - n ∧ valS k r a n = w) → minB k (k ^ (n - 1)) (n - 1) l U c = true →
    lexI (rowN (r.drop p)) (rowN l) = false := by
  have n0 := F.n0
  intro l
  induction l with
  | nil =>
    intro p U c hl _ _ _ _
    rw [List.drop_eq_nil_of_le (by rw [← hl]; simp)]
    rfl
  | cons x l ih =>
    intro p U c hl hp hc hU h
    rw [List.length_cons] at hl
    have hpl : p < r.length := by omega
    unfold minB at h
    rw [Bool.and_eq_true] at h
    obtain ⟨h1, h2⟩ := h
    have hw : valS k r (p + 1 - n) n = c * k + r[p] := by
      obtain ⟨m, rfl⟩ : ∃ m, n = m + 1 := ⟨n - 1, by omega⟩
      rw [hc]
      show valS k r (p + 1 - (m + 1)) m * k + cS r (p + 1 - (m + 1) + m) = _
      rw [show p + 1 - (m + 1) + m = p by omega]
      congr 1
      unfold cS
      rw [Nat.mod_eq_of_lt hpl, List.getD_eq_getElem?_getD, List.getElem?_eq_getElem hpl]
      rfl
    rw [List.drop_eq_getElem_cons hpl]
    generalize hy : r[p] = y at hw
    show (if ((y : Nat) : Int) = ((x : Nat) : Int) then lexI (rowN (r.drop (p + 1))) (rowN l) else decide (((y : Nat) : Int) < ((x : Nat) : Int))) = false
    by_cases e : y = x
    · rw [if_pos (by rw [e])]
      rw [e] at hw
      refine ih (p + 1) _ _ (by omega) (by omega) ?_ (fun w hb => ?_) h2
      · rw [← hw, valS_next F.k0 n0 F.small]
        congr 1
        omega
      · rw [Nat.testBit_or, Bool.or_eq_true, Nat.testBit_shiftLeft] at hb
        rcases hb with hb | hb
        · obtain ⟨a, ha, he⟩ := hU w hb
          exact ⟨a, by omega, he⟩
        · rw [Bool.and_eq_true, Nat.testBit_one_eq_true_iff_self_eq_zero, decide_eq_true_iff] at hb
          exact ⟨p + 1 - n, by omega, by rw [hw]; omega⟩
    · rw [if_neg (by omega), decide_eq_false]
      intro hlt
      have hlt : y < x := by omega
      rw [Bool.or_eq_true] at h1
      rcases h1 with h1 | h1
      · exact dead_no F U _ hU 0 _ _ (Nat.le_refl _) (by omega) hw (mask_all h1 hlt)
      · exact dead_no F U _ hU (n - 1) _ _ (Nat.le_refl _) (by omega) hw (List.all_eq_true.mp h1 y (List.mem_range.mpr hlt))
theorem valS_zero {k : Nat} {r : List Nat} (k0 : 0 < k) (j : Nat) : ∀ n, valS k r j n = 0 ↔ ∀ i, i < n → cS r (j + i) = 0
  | 0 => ⟨fun _ i hi => absurd hi (Nat.not_lt_zero _), fun _ => rfl⟩
  | n + 1 => by
    show valS k r j n * k + cS r (j + n) = 0 ↔ _
    constructor
    · intro h i hi
      have h2 : cS r (j + n) = 0 := by omega
      have h1 : valS k r j n = 0 := by
        have : valS k r j n * k = 0 := by omega
        rcases Nat.mul_eq_zero.mp this with z | z
        · exact z
        · omega
      by_cases e : i = n
      · rw [e]; exact h2
      · exact (valS_zero k0 j n).mp h1 i (by omega)
    · intro h
      rw [(valS_zero k0 j n).mpr fun i hi => h i (by omega), h n (by omega), Nat.zero_mul]
theorem take_zero {k n : Nat} {r : List Nat} (k0 : 0 < k) (hn : n ≤ r.length) : valS k r 0 n = 0 ↔ r.take n = List.replicate n 0 := by
  have cs : ∀ i, i < n → r[i]? = some (cS r i) := fun i hi => by
    unfold cS
    rw [Nat.mod_eq_of_lt (by omega), List.getD_eq_getElem?_getD, List.getElem?_eq_getElem (by omega)]
    rfl
  rw [valS_zero k0]
  constructor
  · intro h
    refine List.ext_getElem? fun i => ?_
    rw [List.getElem?_take, List.getElem?_replicate]
    by_cases hi : i < n
    · rw [if_pos hi, if_pos hi, cs i hi]
      have := h i hi
      rw [Nat.zero_add] at this
      rw [this]
    · rw [if_neg hi, if_neg hi]
  · intro h i hi
    have e := congrArg (fun z => z[i]?) h
    simp only [List.getElem?_take, List.getElem?_replicate, if_pos hi] at e
    rw [cs i hi] at e
    rw [Nat.zero_add]
    exact Option.some.inj e
theorem lexI_zero : ∀ (a : List Nat) (m : Nat), a.length = m → lexI (rowN a) (rowN (List.replicate m 0)) = false
  | [], _, h => by subst h; rfl
  | x :: a, m, h => by
    subst h
    show (if ((x : Nat) : Int) = ((0 : Nat) : Int) then lexI (rowN a) (rowN (List.replicate a.length 0)) else decide (((x : Nat) : Int) < ((0 : Nat) : Int))) = false
    rw [lexI_zero a _ rfl]
    split
    · rfl
    · rw [decide_eq_false (by omega)]
theorem lexI_app : ∀ {a b c d : List Int}, a.length = b.length → lexI (a ++ c) (b ++ d) = if a = b then lexI c d else lexI a b
  | [], [], c, d, _ => by simp
  | x :: a, y :: b, c, d, h => by
    have ih := lexI_app (a := a) (b := b) (c := c) (d := d) (by simpa using h)
    show (if x = y then lexI (a ++ c) (b ++ d) else decide (x < y)) = _
    by_cases e : x = y
    · subst e
      rw [if_pos rfl, ih]
      by_cases e2 : a = b
      · rw [if_pos e2, if_pos (by rw [e2])]
      · rw [if_neg e2, if_neg (by simpa using e2)]
        show _ = if x = x then lexI a b else decide (x < x)
        rw [if_pos rfl]
    · rw [if_neg e, if_neg (by simp [e])]
      show _ = if x = y then lexI a b else decide (x < y)
      rw [if_neg e]
  | [], _ :: _, _, _, h => by simp at h
  | _ :: _, [], _, _, h => by simp at h
def minM (k n : Nat) (L : List Nat) : Bool := decide (k = 1) || minB k (k ^ (n - 1)) (n - 1) (L.drop n) 1 0
theorem min_le {k n : Nat} {L r : List Nat} (FL : FulW k n L) (vL : valS k L 0 n = 0) (h : minM k n L = true) (F : FulW k n r) : lexI (rowN r) (rowN L) = false := by
  have k0 := F.k0
  have n0 := F.n0
  by_cases k1 : k = 1
  · have one : ∀ s : List Nat, FulW k n s → s = [0] := fun s hs => by
      have hl := hs.len
      have hm := hs.small
      rw [k1, Nat.one_pow] at hl
      match s, hl with
      | [c], _ =>
        have := hm c List.mem_cons_self
        rw [show c = 0 by omega]
    rw [one r F, one L FL]
    exact lexI_irr _
  · have hn : n ≤ k ^ n := Nat.le_of_lt (Nat.lt_pow_self (by omega))
    have hnr : n ≤ r.length := by rw [F.len]; exact hn
    have hnL : n ≤ L.length := by rw [FL.len]; exact hn
    unfold minM at h
    rw [decide_eq_false k1, Bool.false_or] at h
    have tL := (take_zero k0 hnL).mp vL
    have eL : rowN L = rowN (List.replicate n 0) ++ rowN (L.drop n) := by
      unfold rowN
      rw [← List.map_append, ← tL, List.take_append_drop]
    have eR : rowN r = rowN (r.take n) ++ rowN (r.drop n) := by
      unfold rowN
      rw [← List.map_append, List.take_append_drop]
    have hlen : (rowN (r.take n)).length = (rowN (List.replicate n 0)).length := by
      rw [rowN_len, rowN_len, List.length_take, List.length_replicate]
      omega
    rw [eL, eR, lexI_app hlen]
    by_cases e : rowN (r.take n) = rowN (List.replicate n 0)
    · rw [if_pos e]
      have hv := (take_zero k0 hnr).mpr (rowN_inj e)
      refine min_walk F (L.drop n) n 1 0 (by rw [List.length_drop, FL.len, F.len]; omega) (Nat.le_refl _) ?_ (fun w hw => ?_) h
      · have := valS_next k0 n0 F.small 0
        rw [hv, Nat.zero_mod] at this
        rw [show n + 1 - n = 0 + 1 by omega]
        exact this
      · rw [Nat.testBit_one_eq_true_iff_self_eq_zero] at hw
        exact ⟨0, by omega, by rw [hw]; exact hv⟩
    · rw [if_neg e]
      exact lexI_zero _ _ (by rw [List.length_take]; omega)
/-! ### rows that are full by a kernel check -/
def fulM (k n : Nat) (r : List Nat) : Bool := (decide (k = 1) && decide (r = [0])) || (decide (1 < k) && decide (r.length = k ^ n) && decide (n ≤ r.length + 1) && (r.all fun x => decide (x < k)) && wchk k n r.length (r ++ r.take (n - 1)) 0 && decide (valS k r 0 n = 0))
theorem win_val {k n : Nat} {r : List Nat} (hn : n ≤ r.length + 1) {p : Nat} (hp : p < r.length) : ∀ m, m ≤ n → (((r ++ r.take (n - 1)).drop p).take m).foldl (fun a x => a * k + x) 0 = valS k r p m
  | 0, _ => rfl
  | m + 1, hm => by
    have ih := win_val (k := k) hn hp m (by omega)
    have hg : (((r ++ r.take (n - 1)).drop p))[m]? = some (cS r (p + m)) := by
      rw [List.getElem?_drop]
      unfold cS
      by_cases h : p + m < r.length
      · rw [List.getElem?_append_left h, Nat.mod_eq_of_lt h, List.getD_eq_getElem?_getD, List.getElem?_eq_getElem h]
        rfl
      · rw [List.getElem?_append_right (by omega), List.getElem?_take_of_lt (by omega), Nat.mod_eq_sub_mod (by omega), Nat.mod_eq_of_lt (by omega), List.getD_eq_getElem?_getD, List.getElem?_eq_getElem (show p + m - r.length < r.length by omega)]
        rfl
    rw [take_one hg, List.foldl_append, ih]
    rfl
theorem fulM_ful {k n : Nat} {r : List Nat} (k0 : 0 < k) (n0 : 0 < n) (h : fulM k n r = true) : FulW k n r ∧ valS k r 0 n = 0 := by
  unfold fulM at h
  rw [Bool.or_eq_true] at h
  rcases h with h | h
  · rw [Bool.and_eq_true, decide_eq_true_iff, decide_eq_true_iff] at h
    obtain ⟨rfl, rfl⟩ := h
    have hs : ∀ c ∈ [0], c < 1 := by simp
    have hz : ∀ j, valS 1 [0] j n = 0 := fun j => by
      have := valS_lt (k := 1) (by omega) hs j n
      rw [Nat.one_pow] at this
      omega
    refine ⟨⟨by omega, n0, hs, by rw [Nat.one_pow]; rfl, fun a b ha hb _ => ?_, fun y hy => ?_⟩, hz 0⟩
    · simp at ha hb
      omega
    · rw [Nat.one_pow] at hy
      exact ⟨0, by simp, by rw [hz]; omega⟩
  · simp only [Bool.and_eq_true, decide_eq_true_eq] at h
    obtain ⟨⟨⟨⟨⟨h1, h2⟩, h3⟩, h4⟩, h5⟩, h6⟩ := h
    have hs : ∀ c ∈ r, c < k := fun c hc => of_decide_eq_true (List.all_eq_true.mp h4 c hc)
    have hu := (wchk_un _ _ _ h5).2
    have hinj : ∀ a b, a < r.length → b < r.length → valS k r a n = valS k r b n → a = b := fun a b ha hb e => by
      rw [← win_val h3 ha n (Nat.le_refl _), ← win_val h3 hb n (Nat.le_refl _)] at e
      rcases Nat.lt_trichotomy a b with g | g | g
      · exact absurd e (hu a b g hb)
      · exact g
      · exact absurd e.symm (hu b a g ha)
    refine ⟨⟨k0, n0, hs, h2, hinj, fun y hy => ?_⟩, h6⟩
    have hp : ((List.range r.length).map fun a => valS k r a n).Perm (List.range (k ^ n)) := perm_ofW (nd_map_of List.nodup_range fun a ha b hb e => hinj a b (List.mem_range.mp ha) (List.mem_range.mp hb) e) List.nodup_range (fun x hx => by
      obtain ⟨a, _, rfl⟩ := List.mem_map.mp hx
      exact List.mem_range.mpr (valS_lt k0 hs a n)) (by rw [List.length_map, List.length_range, List.length_range, h2])
    obtain ⟨a, ha, e⟩ := List.mem_map.mp (hp.mem_iff.mpr (List.mem_range.mpr hy))
    exact ⟨a, List.mem_range.mp ha, e⟩
def okT (k n : Nat) : Bool := chkW k n && (match duv (k : Int) n 700 [-1] [] with
  | none => false
  | some res => (res.flatten.all fun x => decide (0 ≤ x)) && fulM k n (res.flatten.map Int.toNat) && minM k n (res.flatten.map Int.toNat))
theorem okT_row {k n : Nat} (k0 : 0 < k) (n0 : 0 < n) (h : okT k n = true) : ∃ r, duv (k : Int) n 700 [-1] [] = some (isortL (leastB k n)) ∧ (isortL (leastB k n)).flatten = rowN r ∧ FulW k n r ∧ valS k r 0 n = 0 ∧ ∀ s, FulW k n s → lexI (rowN s) (rowN r) = false := by
  unfold okT at h
  rw [Bool.and_eq_true] at h
  obtain ⟨hc, h⟩ := h
  have hd := chk_duv hc
  rw [hd] at h
  generalize isortL (leastB k n) = res at hd h ⊢
  have h : ((res.flatten.all fun x => decide (0 ≤ x)) && fulM k n (res.flatten.map Int.toNat) && minM k n (res.flatten.map Int.toNat)) = true := h
  rw [Bool.and_eq_true, Bool.and_eq_true] at h
  obtain ⟨⟨g1, g2⟩, g3⟩ := h
  obtain ⟨f1, f2⟩ := fulM_ful k0 n0 g2
  refine ⟨_, hd, ?_, f1, f2, fun s hs => min_le f1 f2 g3 hs⟩
  unfold rowN
  rw [List.map_map]
  refine (List.map_id _).symm.trans (List.map_congr_left fun x hx => ?_)
  have := of_decide_eq_true (List.all_eq_true.mp g1 x hx)
  show x = ((x.toNat : Nat) : Int)
  omega
def PairT (x : PyData) : Prop := ∃ k m : Nat, x = .tuple [.int (k : Nat), .int (m : Nat)] ∧ ((k = 0 ∧ m = 0) ∨ (0 < k ∧ k ≤ 600 ∧ 0 < m ∧ m ≤ 40 ∧ k ^ m ≤ 600 ∧ okT k m = true))
theorem pairs_okT {l : List (Nat × Nat)} (h1 : l.all (fun p => decide (0 < p.1 ∧ p.1 ≤ 600 ∧ 0 < p.2 ∧ p.2 ≤ 40 ∧ p.1 ^ p.2 ≤ 600)) = true) (h2 : l.all (fun p => okT p.1 p.2) = true) {x : PyData} (hx : x ∈ l.map prN) : PairT x := by
  obtain ⟨p, hp, rfl⟩ := List.mem_map.mp hx
  have a := of_decide_eq_true (List.all_eq_true.mp h1 p hp)
  exact ⟨p.1, p.2, rfl, .inr ⟨a.1, a.2.1, a.2.2.1, a.2.2.2.1, a.2.2.2.2, List.all_eq_true.mp h2 p hp⟩⟩
theorem lr_few : ([(1, 1), (1, 4), (2, 1), (2, 2), (2, 3), (2, 4), (2, 5), (3, 1), (3, 2), (3, 3), (4, 2), (5, 2), (6, 2)] : List (Nat × Nat)).all (fun p => okT p.1 p.2) = true := by decide +kernel
theorem lr_many1 : ([(2, 6), (2, 7), (2, 8), (3, 4), (3, 5), (4, 3), (4, 4), (5, 3), (6, 3)] : List (Nat × Nat)).all (fun p => okT p.1 p.2) = true := by decide +kernel
theorem lr_many2 : ([(2, 9), (7, 3), (8, 3)] : List (Nat × Nat)).all (fun p => okT p.1 p.2) = true := by decide +kernel
theorem lr_many3 : ([(23, 2), (24, 2), (9, 1), (1, 40)] : List (Nat × Nat)).all (fun p => okT p.1 p.2) = true := by decide +kernel
theorem lr_many4 : okT 599 1 = true := by decide +kernel
theorem lr_many5 : okT 600 1 = true := by decide +kernel
theorem lr_many : ([(2, 6), (2, 7), (2, 8), (2, 9), (3, 4), (3, 5), (4, 3), (4, 4), (5, 3), (6, 3), (7, 3), (8, 3), (23, 2), (24, 2), (9, 1), (599, 1), (600, 1), (1, 40)] : List (Nat × Nat)).all (fun p => okT p.1 p.2) = true := by
  have h1 := lr_many1
  have h2 := lr_many2
  have h3 := lr_many3
  have h4 := lr_many4
  have h5 := lr_many5
  simp only [List.all_cons, List.all_nil, Bool.and_true, Bool.and_eq_true] at h1 h2 h3 ⊢
  exact ⟨h1.1, h1.2.1, h1.2.2.1, h2.1, h1.2.2.2.1, h1.2.2.2.2.1, h1.2.2.2.2.2.1, h1.2.2.2.2.2.2.1, h1.2.2.2.2.2.2.2.1, h1.2.2.2.2.2.2.2.2, h2.2.1, h2.2.2, h3.1, h3.2.1, h3.2.2.1, h4, h5, h3.2.2.2⟩
theorem lr_far : (List.range 23).all (fun a => (List.range 9).all fun b => decide (600 < (a + 2) ^ (b + 1)) || okT (a + 2) (b + 1)) = true := by decide +kernel
theorem far_okT {a b : Nat} (ha : a < 23) (hb : b < 9) (h : (a + 2) ^ (b + 1) ≤ 600) : okT (a + 2) (b + 1) = true := by
  have := List.all_eq_true.mp (List.all_eq_true.mp lr_far a (List.mem_range.mpr ha)) b (List.mem_range.mpr hb)
  rw [Bool.or_eq_true] at this
  rcases this with e | e
  · have := of_decide_eq_true e
    omega
  · exact e
theorem few_okT {x : PyData} (hx : x ∈ ([(1, 1), (1, 4), (2, 1), (2, 2), (2, 3), (2, 4), (2, 5), (3, 1), (3, 2), (3, 3), (4, 2), (5, 2), (6, 2)] : List (Nat × Nat)).map prN) : PairT x := pairs_okT (by decide +kernel) lr_few hx
theorem many_okT {x : PyData} (hx : x ∈ ([(2, 6), (2, 7), (2, 8), (2, 9), (3, 4), (3, 5), (4, 3), (4, 4), (5, 3), (6, 3), (7, 3), (8, 3), (23, 2), (24, 2), (0, 0), (9, 1), (599, 1), (600, 1), (1, 40)] : List (Nat × Nat)).map prN) : PairT x := by
  have := lr_many
  obtain ⟨p, hp, rfl⟩ := List.mem_map.mp hx
  by_cases h : p = (0, 0)
  · subst h
    exact ⟨0, 0, rfl, .inl ⟨rfl, rfl⟩⟩
  · refine pairs_okT (l := [(2, 6), (2, 7), (2, 8), (2, 9), (3, 4), (3, 5), (4, 3), (4, 4), (5, 3), (6, 3), (7, 3), (8, 3), (23, 2), (24, 2), (9, 1), (599, 1), (600, 1), (1, 40)]) (by decide +kernel) lr_many (List.mem_map_of_mem ?_)
    simp only [List.mem_cons, List.not_mem_nil, or_false] at hp ⊢
    simp only [h, false_or] at hp
    exact hp

theorem it_rows (l : List (List Int)) : IT 2 (.tuple (l.map tupI)) := fun x hx => by
  obtain ⟨r, _, rfl⟩ := List.mem_map.mp hx
  exact it_tupI 0 r

theorem eqv_natDs (a b : List Nat) : PyData.eqv (.list (natD a)) (.list (natD b)) = true ↔ rowN a = rowN b := by
  rw [natD_row, natD_row]
  have h : ∀ a b : List Int, PyData.eqvAll (a.map PyData.int) (b.map PyData.int) = decide (a = b) := by
    intro a
    induction a with
    | nil => intro b; cases b <;> simp [PyData.eqvAll]
    | cons x a ih =>
      intro b
      cases b with
      | nil => simp [PyData.eqvAll]
      | cons y b =>
        rw [List.map_cons, List.map_cons, PyData.eqvAll, ih]
        by_cases h1 : x = y <;> by_cases h2 : a = b <;> simp [PyData.eqv, h1, h2]
  have e : PyData.eqv (.list ((rowN a).map PyData.int)) (.list ((rowN b).map PyData.int)) = PyData.eqvAll ((rowN a).map PyData.int) ((rowN b).map PyData.int) := by simp [PyData.eqv]
  rw [e, h, decide_eq_true_iff]

theorem ful_of {k n : Nat} {r : List Nat} (k0 : 0 < k) (n0 : 0 < n) (hs : ∀ c ∈ r, c < k) (hl : r.length = k ^ n) (hinj : ∀ a b, a < r.length → b < r.length → valS k r a n = valS k r b n → a = b) : FulW k n r := by
  refine ⟨k0, n0, hs, hl, hinj, fun y hy => ?_⟩
  have hp : ((List.range r.length).map fun a => valS k r a n).Perm (List.range (k ^ n)) := perm_ofW (nd_map_of List.nodup_range fun a ha b hb e => hinj a b (List.mem_range.mp ha) (List.mem_range.mp hb) e) List.nodup_range (fun x hx => by
    obtain ⟨a, _, rfl⟩ := List.mem_map.mp hx
    exact List.mem_range.mpr (valS_lt k0 hs a n)) (by rw [List.length_map, List.length_range, List.length_range, hl])
  obtain ⟨a, ha, e⟩ := List.mem_map.mp (hp.mem_iff.mpr (List.mem_range.mpr hy))
  exact ⟨a, List.mem_range.mp ha, e⟩
theorem fulR_ful {k n : Nat} {r : List Nat} (k0 : 0 < k) (n0 : 0 < n) (h : fulR (rowN r) k n = true) : FulW k n r := by
  unfold fulR at h
  simp only [Bool.and_eq_true, decide_eq_true_eq] at h
  obtain ⟨h1, h2, h3⟩ := h
  rw [rowN_len] at h1 h3
  have hs : ∀ c ∈ r, c < k := fun c hc => by
    have := h2 (c : Int) (List.mem_map_of_mem hc)
    omega
  refine ful_of k0 n0 hs h1 fun a b ha hb e => ?_
  have e2 : wdAt (rowN r) n a = wdAt (rowN r) n b := by
    refine valW_injF (show (0 : Int) < (k : Int) by omega) (wd_wd k0 hs n a) (wd_wd k0 hs n b) ?_
    rw [wd_val, wd_val, e]
  unfold wordsR at h3
  have la : a < ((List.range r.length).map (wdAt (rowN r) n)).length := by rw [List.length_map, List.length_range]; exact ha
  have lb : b < ((List.range r.length).map (wdAt (rowN r) n)).length := by rw [List.length_map, List.length_range]; exact hb
  exact (List.getElem_inj h3 (h₀ := la) (h₁ := lb)).mp (by rw [List.getElem_map, List.getElem_map, List.getElem_range, List.getElem_range]; exact e2)
def lstN (l : List Nat) : PyData := .list (natD l)
theorem shaped_lstN (l : List (List Nat)) : SeqAt.shaped (.list (l.map lstN)) = true := shaped_l (m := 1) (by decide) fun x hx => by
  obtain ⟨p, _, rfl⟩ := List.mem_map.mp hx
  have h1 := lay_all (xs := natD p) fun x hx => by
    obtain ⟨c, _, rfl⟩ := List.mem_map.mp hx
    rfl
  have h2 := dep_all (m := 0) (xs := natD p) fun x hx => by
    obtain ⟨c, _, rfl⟩ := List.mem_map.mp hx
    exact Nat.le_refl _
  unfold lstN PyData.canLay0 PyData.depth
  exact ⟨h1, by omega⟩
theorem eqv_lstN (l : List (List Nat)) : PyData.eqv (.list (l.map lstN)) (.list []) = decide (l = []) := by
  cases l with
  | nil => simp [PyData.eqv, PyData.eqvAll]
  | cons x l => simp [PyData.eqv, PyData.eqvAll]
def wtP (k N : Nat) (l : List (List Nat)) : Nat := (l.map fun P => (k + 1) ^ (N - P.length)).sum
theorem wtP_app (k N : Nat) (a b : List (List Nat)) : wtP k N (a ++ b) = wtP k N a + wtP k N b := by
  unfold wtP
  rw [List.map_append, List.sum_append]
theorem wtP_one (k N : Nat) (P : List Nat) : wtP k N [P] = (k + 1) ^ (N - P.length) := by
  unfold wtP
  simp
theorem wtP_len (k N : Nat) (l : List (List Nat)) : l.length ≤ wtP k N l := by
  induction l with
  | nil => exact Nat.zero_le _
  | cons P l ih =>
    have : 0 < (k + 1) ^ (N - P.length) := Nat.pow_pos (by omega)
    unfold wtP at ih ⊢
    rw [List.length_cons, List.map_cons, List.sum_cons]
    omega
theorem wtP_ext (k N : Nat) {P : List Nat} (h : P.length < N) (m : Nat) : wtP k N ((List.range m).map fun c => P ++ [c]) = m * (k + 1) ^ (N - P.length - 1) := by
  unfold wtP
  rw [List.map_map]
  induction m with
  | zero => simp
  | succ m ih =>
    rw [List.range_succ, List.map_append, List.sum_append, ih, Nat.succ_mul]
    simp only [List.map_cons, List.map_nil, List.sum_cons, List.sum_nil, Nat.add_zero, Function.comp, List.length_append, List.length_singleton]
    rw [show N - (P.length + 1) = N - P.length - 1 by omega]
theorem wtP_step (k N : Nat) {P : List Nat} (h : P.length < N) : wtP k N ((List.range k).map fun c => P ++ [c]) + 1 ≤ (k + 1) ^ (N - P.length) := by
  rw [wtP_ext k N h]
  have : 0 < (k + 1) ^ (N - P.length - 1) := Nat.pow_pos (by omega)
  have e : (k + 1) ^ (N - P.length) = (k + 1) ^ (N - P.length - 1) * (k + 1) := by
    rw [← Nat.pow_succ]
    congr 1
    omega
  rw [e, Nat.mul_add, Nat.mul_one, Nat.mul_comm]
  omega
theorem wtP_start (k N l : Nat) : ∀ ws : List (List Nat), (∀ w ∈ ws, w.length = l) → wtP k N ws = ws.length * (k + 1) ^ (N - l)
  | [], _ => by simp [wtP]
  | w :: ws, h => by
    have ih := wtP_start k N l ws fun x hx => h x (List.mem_cons_of_mem _ hx)
    unfold wtP at ih ⊢
    rw [List.map_cons, List.sum_cons, ih, h w List.mem_cons_self, List.length_cons, Nat.succ_mul, Nat.add_comm]
/-- words as lists of numbers -/
def wordsN (k : Nat) : Nat → List (List Nat)
  | 0 => [[]]
  | l + 1 => (wordsN k l).flatMap fun w => (List.range k).map fun d => w ++ [d]
theorem wordsN_row (k : Nat) : ∀ l, wordsL k l = (wordsN k l).map rowN
  | 0 => rfl
  | l + 1 => by
    show (wordsL k l).flatMap _ = ((wordsN k l).flatMap _).map rowN
    rw [wordsN_row k l, List.map_flatMap, List.flatMap_map]
    congr 1
    funext w
    rw [List.map_map]
    refine List.map_congr_left fun d _ => ?_
    show rowN w ++ [(d : Int)] = rowN (w ++ [d])
    unfold rowN
    rw [List.map_append]
    rfl
theorem wordsN_facts (k : Nat) : ∀ l w, w ∈ wordsN k l ↔ w.length = l ∧ ∀ c ∈ w, c < k
  | 0, w => by
    show w ∈ [[]] ↔ _
    rw [List.mem_singleton]
    constructor
    · rintro rfl
      exact ⟨rfl, by simp⟩
    · rintro ⟨h, _⟩
      exact List.eq_nil_of_length_eq_zero h
  | l + 1, w => by
    show w ∈ (wordsN k l).flatMap _ ↔ _
    rw [List.mem_flatMap]
    constructor
    · rintro ⟨v, hv, hw⟩
      obtain ⟨d, hd, rfl⟩ := List.mem_map.mp hw
      obtain ⟨h1, h2⟩ := (wordsN_facts k l v).mp hv
      refine ⟨by rw [List.length_append, h1]; rfl, fun c hc => ?_⟩
      rcases List.mem_append.mp hc with hc | hc
      · exact h2 c hc
      · rw [List.mem_singleton.mp hc]
        exact List.mem_range.mp hd
    · rintro ⟨h1, h2⟩
      rcases List.eq_nil_or_concat w with rfl | ⟨v, d, rfl⟩
      · simp at h1
      · rw [List.concat_eq_append] at *
        rw [List.length_append, List.length_singleton] at h1
        exact ⟨v, (wordsN_facts k l v).mpr ⟨by omega, fun c hc => h2 c (List.mem_append_left _ hc)⟩, List.mem_map.mpr ⟨d, List.mem_range.mpr (h2 d (by simp)), rfl⟩⟩
/-- a beginning of a full row ends with a word that it does not have ahead -/
theorem beg_new {k n : Nat} {L : List Nat} (F : FulW k n L) {j a : Nat} (hj : j ≤ L.length) (hn : n ≤ j) (ha : a < j - n) : ((L.take j).drop a).take n ≠ (L.take j).drop (j - n) := by
  intro e
  have h1 : ∀ b, b + n ≤ j → ((L.take j).drop b).take n = (List.range n).map fun i => cS L (b + i) := fun b hb => by
    refine List.ext_getElem? fun i => ?_
    rw [List.getElem?_take, List.getElem?_drop, List.getElem?_take, List.getElem?_map]
    by_cases hi : i < n
    · rw [if_pos hi, if_pos (by omega), List.getElem?_range hi]
      show _ = some (cS L (b + i))
      unfold cS
      rw [Nat.mod_eq_of_lt (by omega), List.getD_eq_getElem?_getD, List.getElem?_eq_getElem (by omega)]
      rfl
    · rw [if_neg hi, List.getElem?_eq_none (by simp; omega)]
      rfl
  have e1 := h1 a (by omega)
  have e2 := h1 (j - n) (by omega)
  rw [List.take_of_length_le (by rw [List.length_drop, List.length_take]; omega)] at e2
  have e3 : ((List.range n).map fun i => cS L (a + i)) = (List.range n).map fun i => cS L (j - n + i) := by rw [← e1, ← e2, e]
  have e4 : ∀ i, i < n → cS L (a + i) = cS L (j - n + i) := fun i hi => by
    have := congrArg (fun z => z[i]?) e3
    simpa [List.getElem?_map, List.getElem?_range hi] using this
  have e5 : ∀ m, m ≤ n → valS k L a m = valS k L (j - n) m := fun m => by
    induction m with
    | zero => intro _; rfl
    | succ m ih =>
      intro hm
      show valS k L a m * k + cS L (a + m) = valS k L (j - n) m * k + cS L (j - n + m)
      rw [ih (by omega), e4 m (by omega)]
  have n0 := F.n0
  have := F.inj a (j - n) (by omega) (by omega) (e5 n (Nat.le_refl _))
  omega
theorem lstN_inj {a b : List Nat} (h : PyData.eqv (lstN a) (lstN b) = true) : a = b := rowN_inj ((eqv_natDs a b).mp h)
theorem pre_next {k n : Nat} {L : List Nat} (F : FulW k n L) {j : Nat} (hj : j < L.length) : L.take (j + 1) ∈ (List.range k).map fun c => L.take j ++ [c] := by
  refine List.mem_map.mpr ⟨L[j], List.mem_range.mpr (F.small _ (List.getElem_mem hj)), ?_⟩
  exact (take_one (List.getElem?_eq_getElem hj)).symm
section
variable {P : Program} {w : World} {K : PySem.W.Frag} {mg : Str → Option Value} {base : Heap}
def sp_raised : Sp3 := fun ds S Q => ∃ (k : Int) (n : Nat), ds = [.p (.int k), .p (.int (n : Nat))] ∧ 0 ≤ k ∧ k ≤ 1000000 ∧ n ≤ 1000 ∧ Q (.p (.int (k ^ n))) S
def t_raised : TS3 := tSeq3 (tSet3 2 (tC3 (.int 1))) (tSeq3 (tFor3 (tRng1 (tCons3 (tVar3 1) (tNil3))) (.nm 3) (tSet3 2 (tOp3 rMulT3 (tVar3 2) (tVar3 0)))) (tRet3 (tVar3 2)))
theorem dv_raised (T : Txt K mg base) {f : Addr} {cdv : Value} {A : Around} {outer : List Env} {s : Shared} {H : Hp} {E : XK} (hr : Room 0 (A.deeper (envOfC "raised" (defScope s_raised) s.heap.objs.size f cdv))) : QSs (cxOf CX0 P w K mg base nm_raised "raised" (defScope s_raised) f cdv A outer s H E).nox (defBody s_raised) t_raised :=
  qss_cons (qs_set (i := 2) sc_raised.nd rfl (by first | exact .inl rfl | exact .inr rfl) (qe_int)) (qss_cons (qs_for PassesOwn.never rfl (qi_range1 (by rfl) T.b_range (qa_cons (qv 1) (qa_nil))) (qb_nm (i := 3) sc_raised.nd rfl (by first | exact .inl rfl | exact .inr rfl)) (qss_one (qs_set (i := 2) sc_raised.nd rfl (by first | exact .inl rfl | exact .inr rfl) (qe_op oq_mulT (qv 2) (qv 0))))) (qss_one (qs_ret (qv 2))))
theorem rd_raised : ∀ ds S Q, sp_raised ds S Q → t_raised { nx := fun _ S' => Fin3 S Q (.p .none) S', rt := Fin3 S Q } (env0 4 ds) S := by
  rintro _ S Q ⟨k, n, rfl, h0, h1, hn, q⟩
  unfold t_raised
  walk_at "rd"
  refine ⟨by omega, fun i e s => ∃ z : Option D, s = S ∧ e = [some (.p (.int k)), some (.p (.int (n : Nat))), some (.p (.int (k ^ i))), z], ⟨none, rfl, by rw [Int.pow_zero]⟩, fun _ _ _ _ => trivial, ?_, ?_⟩
  · rintro i d e s hi ⟨z, rfl, rfl⟩
    obtain ⟨hi, rfl⟩ := rng_get hi
    walk_at "rd"
    exact ⟨.inr (.inl (by omega)), wk_self ⟨_, rfl, by rw [Int.pow_succ]⟩⟩
  · rintro e s ⟨z, rfl, rfl⟩
    rw [rng_len, Int.toNat_natCast]
    walk_at "rd"
    exact fin_p q
theorem ok_raised (T : Txt K mg base) : Ok3 P w K mg base 1 "raised" sp_raised := by
  obtain ⟨f, fd, F, hm, hb⟩ := T.f_raised
  exact Ok3.mk' F hm hb sc_raised (fun ds S Q h => by simp only [sp_raised] at h; first | (obtain ⟨rfl, _⟩ := h; rfl) | (obtain ⟨_, rfl, _⟩ := h; rfl) | (obtain ⟨_, _, rfl, _⟩ := h; rfl) | (obtain ⟨_, _, _, rfl, _⟩ := h; rfl) | (obtain ⟨_, _, _, _, rfl, _⟩ := h; rfl) | (obtain ⟨_, _, _, _, _, rfl, _⟩ := h; rfl) | (obtain ⟨_, _, _, _, _, _, rfl, _⟩ := h; rfl) | (obtain ⟨_, _, _, _, _, _, _, rfl, _⟩ := h; rfl) | (obtain ⟨_, _, _, _, _, _, _, _, rfl, _⟩ := h; rfl) | (obtain ⟨_, _, _, _, _, _, _, _, _, rfl, _⟩ := h; rfl) | (obtain ⟨_, _, _, _, _, _, _, _, _, _, rfl, _⟩ := h; rfl) | exact h.2) (fun cdv A outer s H E hr => dv_raised T hr) rd_raised
def sp_need_few : Sp3 := fun ds S Q => ∃ (k : Int) (n : Nat), ds = [.p (.int k), .p (.int (n : Nat))] ∧ 0 ≤ k ∧ k ≤ 1000000 ∧ n ≤ 1000 ∧ k ^ n ≤ 600 ∧ Q (.p .none) S
def t_need_few : TS3 := tIfS3 (tTest3 (tOp3 rGt3 (tCB3 sp_raised (tCons3 (tVar3 0) (tCons3 (tVar3 1) (tNil3)))) (tC3 (.int 600)))) (tNever3) (tNext3)
theorem dv_need_few (T : Txt K mg base) {f : Addr} {cdv : Value} {A : Around} {outer : List Env} {s : Shared} {H : Hp} {E : XK} (hr : Room 1 (A.deeper (envOfC "need_few" (defScope s_need_few) s.heap.objs.size f cdv))) : QSs (cxOf CX0 P w K mg base nm_need_few "need_few" (defScope s_need_few) f cdv A outer s H E).nox (defBody s_need_few) t_need_few :=
  qss_one (qs_if (qt_cmp oq_gt (qe_call (ok_raised T) (hr.mono (by decide)) (by rfl) (qa_cons (qv 0) (qa_cons (qv 1) (qa_nil)))) (qe_gl T.c_MOST_LONG (by rfl))) (qss_one (qs_never)) (qss_nil))
theorem rd_need_few : ∀ ds S Q, sp_need_few ds S Q → t_need_few { nx := fun _ S' => Fin3 S Q (.p .none) S', rt := Fin3 S Q } (env0 2 ds) S := by
  rintro _ S Q ⟨k, n, rfl, h0, h1, hn, hp, q⟩
  unfold t_need_few sp_raised
  walk_at "rd"
  refine ⟨k, n, rfl, h0, h1, hn, ?_⟩
  rw [if_neg (by omega)]
  exact fin_p q
theorem ok_need_few (T : Txt K mg base) : Ok3 P w K mg base 2 "need_few" sp_need_few := by
  obtain ⟨f, fd, F, hm, hb⟩ := T.f_need_few
  exact Ok3.mk' F hm hb sc_need_few (fun ds S Q h => by simp only [sp_need_few] at h; first | (obtain ⟨rfl, _⟩ := h; rfl) | (obtain ⟨_, rfl, _⟩ := h; rfl) | (obtain ⟨_, _, rfl, _⟩ := h; rfl) | (obtain ⟨_, _, _, rfl, _⟩ := h; rfl) | (obtain ⟨_, _, _, _, rfl, _⟩ := h; rfl) | (obtain ⟨_, _, _, _, _, rfl, _⟩ := h; rfl) | (obtain ⟨_, _, _, _, _, _, rfl, _⟩ := h; rfl) | (obtain ⟨_, _, _, _, _, _, _, rfl, _⟩ := h; rfl) | (obtain ⟨_, _, _, _, _, _, _, _, rfl, _⟩ := h; rfl) | (obtain ⟨_, _, _, _, _, _, _, _, _, rfl, _⟩ := h; rfl) | (obtain ⟨_, _, _, _, _, _, _, _, _, _, rfl, _⟩ := h; rfl) | exact h.2) (fun cdv A outer s H E hr => dv_need_few T hr) rd_need_few
def sp_least_words : Sp3 := fun ds S Q => ∃ (k n : Nat) (res : List (List Int)), ds = [.p (.int (k : Nat)), .p (.int (n : Nat))] ∧ 0 < k ∧ k ≤ 600 ∧ 0 < n ∧ n ≤ 40 ∧ ((k : Int)) ^ n ≤ 600 ∧ duv (k : Int) n 700 [-1] [] = some res ∧ Q (.p (.tuple (res.map tupI))) S
def t_least_words_b2 : TS3 := tDrop3 (tPop3 (tVar3 3))
def t_least_words_b1_r2 : TS3 := tSeq3 (tSet3 3 (tOwn (tLc3 (tRng1 (tCons3 (tVar3 1) (tNil3))) (.nm 4) (tYes3) (tOp3 rIx3 (tVar3 3) (tOp3 rMod3 (tVar3 4) (tCB3 (rLenA3) (tCons3 (tVar3 3) (tNil3))))) [4]))) (tWhile3 (tAnd3 (tTest3 (tOp3 rGt3 (tCB3 (rLenA3) (tCons3 (tVar3 3) (tNil3))) (tC3 (.int 0)))) (tTest3 (tOp3 rEqS3 (tOp3 rIx3 (tVar3 3) (tUn3 rNeg3 (tC3 (.int 1)))) (tOp3 rSub3 (tVar3 0) (tC3 (.int 1)))))) (t_least_words_b2))
def t_least_words_b1_r1 : TS3 := tSeq3 (tIfS3 (tTest3 (tOp3 rEqS3 (tOp3 rMod3 (tVar3 1) (tCB3 (rLenA3) (tCons3 (tVar3 3) (tNil3)))) (tC3 (.int 0)))) (tDrop3 (tApp3 (tVar3 2) (tCB3 (rTupOf3) (tCons3 (tVar3 3) (tNil3))))) (tNext3)) (t_least_words_b1_r2)
def t_least_words_b1 : TS3 := tSeq3 (tAugI3 (tVar3 3) (tUn3 rNeg3 (tC3 (.int 1))) (tC3 (.int 1)) (rInt0 fun i j => .int (i + j))) (t_least_words_b1_r1)
def t_least_words : TS3 := tSeq3 (tDrop3 (tCB3 sp_need_few (tCons3 (tVar3 0) (tCons3 (tVar3 1) (tNil3))))) (tSeq3 (tSet3 2 (tOwn (tLst3 (tNil3)))) (tSeq3 (tSet3 3 (tOwn (tLst3 (tCons3 (tUn3 rNeg3 (tC3 (.int 1))) (tNil3))))) (tSeq3 (tWhile3 (tTest3 (tOp3 rGt3 (tCB3 (rLenA3) (tCons3 (tVar3 3) (tNil3))) (tC3 (.int 0)))) (t_least_words_b1)) (tRet3 (tCB3 (rTupOf3) (tCons3 (tVar3 2) (tNil3)))))))
theorem dv_least_words (T : Txt K mg base) {f : Addr} {cdv : Value} {A : Around} {outer : List Env} {s : Shared} {H : Hp} {E : XK} (hr : Room 2 (A.deeper (envOfC "least_words" (defScope s_least_words) s.heap.objs.size f cdv))) : QSs (cxOf CX0 P w K mg base nm_least_words "least_words" (defScope s_least_words) f cdv A outer s H E).nox (defBody s_least_words) t_least_words :=
  qss_cons (qs_expr (qe_call (ok_need_few T) (hr.mono (by decide)) (by rfl) (qa_cons (qv 0) (qa_cons (qv 1) (qa_nil))))) (qss_cons (qs_set (i := 2) sc_least_words.nd rfl (by first | exact .inl rfl | exact .inr rfl) (qn_own (qn_lst (qa_nil)))) (qss_cons (qs_set (i := 3) sc_least_words.nd rfl (by first | exact .inl rfl | exact .inr rfl) (qn_own (qn_lst (qa_cons (qe_un uq_neg (qe_int)) (qa_nil))))) (qss_cons (qs_while PassesOwn.never (qt_cmp oq_gt (qe_cb cq_lenA (by rfl) T.b_len (by decide +kernel) (qa_cons (qv 3) (qa_nil))) (qe_int)) (qss_cons (qs_augI (qv 3) (qe_un uq_neg (qe_int)) (qe_int) pq_add) (qss_cons (qs_if (qt_cmp (oq_eqS hr.units) (qe_op oq_mod (qv 1) (qe_cb cq_lenA (by rfl) T.b_len (by decide +kernel) (qa_cons (qv 3) (qa_nil)))) (qe_int)) (qss_one (qs_expr (qe_append (qv 2) (qe_ty cq_tuple (by rfl) T.b_tuple (by decide +kernel) (qa_cons (qv 3) (qa_nil)))))) (qss_nil)) (qss_cons (qs_set (i := 3) sc_least_words.nd rfl (by first | exact .inl rfl | exact .inr rfl) (qn_own (qn_lc (own := [("at", 4)]) rfl sc_least_words.nd (qi_range1 (by rfl) T.b_range (qa_cons (qv 1) (qa_nil))) (blkOk_by (own := [("at", 4)]) (N := nm_least_words) (sc := defScope s_least_words) (by decide +kernel)) (fun _ _ _ _ _ => qb_nm (i := 4) sc_least_words.nd rfl (by first | exact .inl rfl | exact .inr rfl)) (fun _ _ _ _ _ => qts_nil) (fun _ _ _ _ _ => qe_ix iq_seq (qv 3) (qe_op oq_mod (qv 4) (qe_cb cq_lenA (by rfl) T.b_len (by decide +kernel) (qa_cons (qv 3) (qa_nil)))))))) (qss_one (qs_while PassesOwn.never (qt_w (qw_and (qt_cmp oq_gt (qe_cb cq_lenA (by rfl) T.b_len (by decide +kernel) (qa_cons (qv 3) (qa_nil))) (qe_int)) (qw_and1 (qt_cmp (oq_eqS hr.units) (qe_ix iq_seq (qv 3) (qe_un uq_neg (qe_int))) (qe_op oq_sub (qv 0) (qe_int)))))) (qss_one (qs_expr (qe_pop (qv 3)))))))))) (qss_one (qs_ret (qe_ty cq_tuple (by rfl) T.b_tuple (by decide +kernel) (qa_cons (qv 2) (qa_nil))))))))
theorem rd_least_words : ∀ ds S Q, sp_least_words ds S Q → t_least_words { nx := fun _ S' => Fin3 S Q (.p .none) S', rt := Fin3 S Q } (env0 5 ds) S := by
  rintro _ S Q ⟨k, n, res, rfl, k0, k1, n0, n1, hp, hduv, q⟩
  unfold t_least_words sp_need_few
  walk_at "rd"
  refine ⟨k, n, rfl, by omega, by omega, by omega, hp, ?_⟩
  refine ⟨fun m e s => ∃ (j f : Nat) (word : List Int) (acc : List (List Int)), duv (k : Int) n m word acc = some res ∧ e = [some (.p (.int (k : Nat))), some (.p (.int (n : Nat))), some (.loc f), some (.loc j), none] ∧ s[f]? = some (some (.lst (acc.reverse.map tupI))) ∧ s[j]? = some (some (.lst (word.map PyData.int))) ∧ f ≠ j ∧ S.length ≤ f ∧ S.length ≤ j ∧ s.take S.length = S ∧ acc.length + m ≤ 700 ∧ word.length ≤ 40, ⟨700, S.length + 1, S.length, [-1], [], hduv, by simp, by simp, by simp, by omega, Nat.le_refl _, by omega, by simp, by simp, by simp⟩, ?_⟩
  rintro m e s ⟨j, f, word, acc, hd, rfl, hf, hj, hfj, hSf, hSj, hS, hm, hwl⟩
  walk_at "rd"
  simp only [hj]
  walk_at "rd"
  by_cases hwn : word = []
  · subst hwn
    rw [if_neg (by simp)]
    rw [duv_nil] at hd
    cases hd
    walk_at "rd"
    simp only [hf]
    walk_at "rd"
    exact fin_of hS q
  · have hw0 : 0 < word.length := List.length_pos_iff.mpr hwn
    rw [if_pos (show (0 : Int) < (word.length : Int) by omega)]
    obtain ⟨m', rfl, hd'⟩ := duv_some hd hwn
    have hil := incW_len hwn
    have hjl : j < s.length := (List.getElem?_eq_some_iff.mp hj).1
    have hfl : f < s.length := (List.getElem?_eq_some_iff.mp hf).1
    have hlast : word.getLast? = some (word.getLast hwn) := List.getLast?_eq_some_getLast hwn
    generalize word.getLast hwn = x at hlast
    unfold t_least_words_b1
    walk_at "rd"
    simp only [hj]
    walk_at "rd"
    rw [map_last, hlast]
    simp only [Option.map_some]
    walk_at "rd"
    try simp only [hj]
    try walk_at "rd"
    rw [ixN_neg1 hw0]
    simp only [incW_set hwn x hlast]
    generalize hinc : incW word = w1 at *
    have hj1 : (s.set j (some (.lst (w1.map PyData.int))))[j]? = some (some (.lst (w1.map PyData.int))) := List.getElem?_set_self hjl
    have hf1 : (s.set j (some (.lst (w1.map PyData.int))))[f]? = some (some (.lst (acc.reverse.map tupI))) := by
      rw [List.getElem?_set_ne (Ne.symm hfj)]
      exact hf
    have hS1 : (s.set j (some (.lst (w1.map PyData.int)))).take S.length = S := by
      rw [List.take_set, hS]
      exact List.set_eq_of_length_le hSj
    have hl1 : (s.set j (some (.lst (w1.map PyData.int)))).length = s.length := List.length_set ..
    generalize s.set j (some (.lst (w1.map PyData.int))) = s1 at *
    unfold t_least_words_b1_r1
    walk_at "rd"
    simp only [hj1, hf1]
    walk_at "rd"
    have hw1l : w1.length = word.length := by rw [← hinc]; exact incW_len hwn
    have tail : ∀ (D : N3) (acc2 : List (List Int)) (s2 : S3), s2[f]? = some (some (.lst (acc2.reverse.map tupI))) → s2[j]? = some (some (.lst (w1.map PyData.int))) → s2.take S.length = S →
        (∀ (j2 : Nat) (s3 : S3), s3[f]? = some (some (.lst (acc2.reverse.map tupI))) → s3[j2]? = some (some (.lst ((stripW k (cycW n w1)).map PyData.int))) → f ≠ j2 → S.length ≤ j2 → s3.take S.length = S → D.nx [some (.p (.int (k : Nat))), some (.p (.int (n : Nat))), some (.loc f), some (.loc j2), none] s3) →
        t_least_words_b1_r2 D [some (.p (.int (k : Nat))), some (.p (.int (n : Nat))), some (.loc f), some (.loc j), none] s2 := by
      intro D acc2 s2 g1 g2 g3 hD
      have gl : f < s2.length := (List.getElem?_eq_some_iff.mp g1).1
      unfold t_least_words_b1_r2
      walk_at "rd"
      refine ⟨by omega, fun i acc s => s = s2 ∧ acc = ((List.range i).map fun a => w1.getD (a % w1.length) 0).map PyData.int, ⟨rfl, rfl⟩, fun _ _ _ _ => trivial, ?_, ?_⟩
      · rintro i d acc s hi ⟨rfl, rfl⟩
        obtain ⟨hi, rfl⟩ := rng_get hi
        have hmi : i % w1.length < w1.length := Nat.mod_lt _ (by omega)
        walk_at "rd"
        simp only [g2]
        walk_at "rd"
        have e : atI (w1.map PyData.int) ((0 + (i : Int)) % (w1.length : Int)) = some (.int (w1.getD (i % w1.length) 0)) := by
          have e1 : (0 + (i : Int)) % (w1.length : Int) = ((i % w1.length : Nat) : Int) := by rw [Int.zero_add]; rfl
          rw [e1]
          exact atI_nat (by rw [List.getElem?_map, List.getD_eq_getElem?_getD, List.getElem?_eq_getElem hmi]; rfl)
        rw [e]
        refine ⟨by omega, ?_⟩
        rw [List.range_succ, List.map_append, List.map_append]
        rfl
      · rintro acc s ⟨rfl, rfl⟩
        rw [rng_len, Int.toNat_natCast]
        have hcyc : ((List.range n).map fun a => w1.getD (a % w1.length) 0) = cycW n w1 := rfl
        rw [hcyc]
        walk_at "rd"
        refine ⟨fun m e s3 => ∃ w3 : List Int, m = w3.length ∧ stripW k w3 = stripW k (cycW n w1) ∧ e = [some (.p (.int (k : Nat))), some (.p (.int (n : Nat))), some (.loc f), some (.loc s.length), none] ∧ s3[f]? = some (some (.lst (acc2.reverse.map tupI))) ∧ s3[s.length]? = some (some (.lst (w3.map PyData.int))) ∧ s3.take S.length = S ∧ s3.length = s.length + 1, ⟨_, cycW n w1, rfl, rfl, rfl, by rw [List.getElem?_append_left gl]; exact g1, by simp, by rw [List.take_append_of_le_length (by omega)]; exact g3, by simp⟩, ?_⟩
        rintro m e s3 ⟨w3, rfl, hst, rfl, f1, f2, f3, f4⟩
        walk_at "rd"
        simp only [f2]
        walk_at "rd"
        have stop : stripW k w3 = w3 → D.nx [some (.p (.int (k : Nat))), some (.p (.int (n : Nat))), some (.loc f), some (.loc s.length), none] s3 := fun e => by
          refine hD s.length s3 f1 ?_ (by omega) ?_ f3
          · rw [← hst, e]
            exact f2
          · have := congrArg List.length g3
            rw [List.length_take] at this
            omega
        by_cases hw3 : w3 = []
        · subst hw3
          rw [if_neg (by simp)]
          exact stop rfl
        · have h30 : 0 < w3.length := List.length_pos_iff.mpr hw3
          rw [if_pos (show (0 : Int) < (w3.length : Int) by omega)]
          have hlast3 : w3.getLast? = some (w3.getLast hw3) := List.getLast?_eq_some_getLast hw3
          have hcat := List.dropLast_concat_getLast hw3
          generalize w3.getLast hw3 = y at hlast3 hcat
          rw [map_last, hlast3]
          simp only [Option.map_some]
          rw [eqv_int]
          refine ⟨⟨rfl, trivial⟩, ?_⟩
          by_cases hy : y = (k : Int) - 1
          · rw [if_pos (by rw [hy]; simp)]
            unfold t_least_words_b2
            walk_at "rd"
            simp only [f2]
            walk_at "rd"
            rw [List.getLast?_map, hlast3]
            simp only [Option.map_some]
            show Wk _ _ _ _
            have hfs : s.length ≠ f := by omega
            refine wk_self ⟨w3.length - 1, by omega, w3.dropLast, by rw [List.length_dropLast], ?_, rfl, ?_, ?_, ?_, by rw [List.length_set]; exact f4⟩
            · rw [← hst]
              conv => rhs; rw [← hcat, hy]
              rw [strip_snoc]
            · rw [List.getElem?_set_ne hfs]
              exact f1
            · rw [List.getElem?_set_self (by omega), ← List.map_dropLast]
            · rw [List.take_set, f3]
              have := congrArg List.length g3
              rw [List.length_take] at this
              exact List.set_eq_of_length_le (by omega)
          · rw [if_neg (by simpa using hy)]
            exact stop (strip_stop fun x hx => by rw [hlast3] at hx; rw [← Option.some.inj hx]; exact hy)
    by_cases hdiv : (n : Int) % (w1.length : Int) = 0
    · have hdn : n % w1.length = 0 := by omega
      rw [if_pos hdn] at hd'
      rw [if_pos hdiv]
      refine ⟨by omega, by rw [List.length_reverse]; omega, ?_⟩
      refine tail _ (w1 :: acc) _ ?_ ?_ ?_ ?_
      · rw [List.getElem?_set_self (by omega), List.reverse_cons, List.map_append]
        rfl
      · rw [List.getElem?_set_ne hfj]
        exact hj1
      · rw [List.take_set, hS1]
        exact List.set_eq_of_length_le hSf
      · intro j2 s3 a1 a2 a3 a4 a5
        dsimp only
        exact wk_self ⟨m', by omega, j2, f, _, w1 :: acc, hd', rfl, a1, a2, a3, hSf, a4, a5, by rw [List.length_cons]; omega, Nat.le_trans (strip_len _ _) (by unfold cycW; rw [List.length_map, List.length_range]; exact n1)⟩
    · have hdn : ¬ n % w1.length = 0 := by omega
      rw [if_neg hdn] at hd'
      rw [if_neg hdiv]
      refine ⟨by omega, tail _ acc _ hf1 hj1 hS1 ?_⟩
      intro j2 s3 a1 a2 a3 a4 a5
      dsimp only
      exact wk_self ⟨m', by omega, j2, f, _, acc, hd', rfl, a1, a2, a3, hSf, a4, a5, by omega, Nat.le_trans (strip_len _ _) (by unfold cycW; rw [List.length_map, List.length_range]; exact n1)⟩
theorem ok_least_words (T : Txt K mg base) : Ok3 P w K mg base 3 "least_words" sp_least_words := by
  obtain ⟨f, fd, F, hm, hb⟩ := T.f_least_words
  exact Ok3.mk' F hm hb sc_least_words (fun ds S Q h => by simp only [sp_least_words] at h; first | (obtain ⟨rfl, _⟩ := h; rfl) | (obtain ⟨_, rfl, _⟩ := h; rfl) | (obtain ⟨_, _, rfl, _⟩ := h; rfl) | (obtain ⟨_, _, _, rfl, _⟩ := h; rfl) | (obtain ⟨_, _, _, _, rfl, _⟩ := h; rfl) | (obtain ⟨_, _, _, _, _, rfl, _⟩ := h; rfl) | (obtain ⟨_, _, _, _, _, _, rfl, _⟩ := h; rfl) | (obtain ⟨_, _, _, _, _, _, _, rfl, _⟩ := h; rfl) | (obtain ⟨_, _, _, _, _, _, _, _, rfl, _⟩ := h; rfl) | (obtain ⟨_, _, _, _, _, _, _, _, _, rfl, _⟩ := h; rfl) | (obtain ⟨_, _, _, _, _, _, _, _, _, _, rfl, _⟩ := h; rfl) | exact h.2) (fun cdv A outer s H E hr => dv_least_words T hr) rd_least_words
def sp_least_row : Sp3 := fun ds S Q => ∃ (k n : Nat) (res : List (List Int)), ds = [.p (.int (k : Nat)), .p (.int (n : Nat))] ∧ 0 < k ∧ k ≤ 600 ∧ 0 < n ∧ n ≤ 40 ∧ k ^ n ≤ 600 ∧ duv (k : Int) n 700 [-1] [] = some res ∧ res.flatten.length ≤ 600 ∧ Q (.p (tupI res.flatten)) S
def t_least_row : TS3 := tSeq3 (tSet3 2 (tOwn (tLst3 (tNil3)))) (tSeq3 (tFor3 (tSeqI3 (tCB3 sp_least_words (tCons3 (tVar3 0) (tCons3 (tVar3 1) (tNil3))))) (.nm 3) (tDrop3 (tExtT3 (tVar3 2) (tVar3 3)))) (tRet3 (tCB3 (rTupOf3) (tCons3 (tVar3 2) (tNil3)))))
theorem dv_least_row (T : Txt K mg base) {f : Addr} {cdv : Value} {A : Around} {outer : List Env} {s : Shared} {H : Hp} {E : XK} (hr : Room 3 (A.deeper (envOfC "least_row" (defScope s_least_row) s.heap.objs.size f cdv))) : QSs (cxOf CX0 P w K mg base nm_least_row "least_row" (defScope s_least_row) f cdv A outer s H E).nox (defBody s_least_row) t_least_row :=
  qss_cons (qs_set (i := 2) sc_least_row.nd rfl (by first | exact .inl rfl | exact .inr rfl) (qn_own (qn_lst (qa_nil)))) (qss_cons (qs_for PassesOwn.never rfl (qi_seq (qe_call (ok_least_words T) (hr.mono (by decide)) (by rfl) (qa_cons (qv 0) (qa_cons (qv 1) (qa_nil))))) (qb_nm (i := 3) sc_least_row.nd rfl (by first | exact .inl rfl | exact .inr rfl)) (qss_one (qs_expr (qe_extT (qv 2) (qv 3))))) (qss_one (qs_ret (qe_ty cq_tuple (by rfl) T.b_tuple (by decide +kernel) (qa_cons (qv 2) (qa_nil))))))
theorem rd_least_row : ∀ ds S Q, sp_least_row ds S Q → t_least_row { nx := fun _ S' => Fin3 S Q (.p .none) S', rt := Fin3 S Q } (env0 4 ds) S := by
  rintro _ S Q ⟨k, n, res, rfl, k0, k1, n0, n1, hp, hres, hll, q⟩
  unfold t_least_row sp_least_words
  walk_at "rd"
  refine ⟨k, n, res, rfl, k0, k1, n0, n1, by rw [← Int.natCast_pow]; omega, hres, ?_⟩
  have hlen : ∀ i, ((res.take i).flatten).length ≤ 600 := fun i => by
    have e := congrArg (fun l : List (List Int) => l.flatten.length) (List.take_append_drop i res)
    simp only [List.flatten_append, List.length_append] at e
    omega
  refine ⟨fun i e s => s = S ++ [some (.lst ((res.take i).flatten.map PyData.int))] ∧ ∃ z3 : Option D, e = [some (.p (.int (k : Nat))), some (.p (.int (n : Nat))), some (.loc S.length), z3], ⟨rfl, none, rfl⟩, fun _ _ _ _ => trivial, ?_, ?_⟩
  · rintro i d e s hd ⟨rfl, z3, rfl⟩
    rw [List.getElem?_map] at hd
    obtain ⟨w, hw, rfl⟩ := Option.map_eq_some_iff.mp hd
    have e1 : (S ++ [some (O3.lst ((res.take i).flatten.map PyData.int))])[S.length]? = some (some (.lst ((res.take i).flatten.map PyData.int))) := by simp
    rw [show tupI w = .tuple (w.map PyData.int) from rfl]
    walk_at "rd"
    simp only [e1]
    walk_at "rd"
    have h1 := hlen (i + 1)
    rw [take_one hw, List.flatten_append, List.length_append, List.flatten_singleton] at h1
    refine ⟨by omega, wk_self ⟨?_, _, rfl⟩⟩
    rw [List.set_append_right _ _ (Nat.le_refl _), Nat.sub_self, take_one hw, List.flatten_append, List.flatten_singleton, List.map_append]
    rfl
  · rintro e s ⟨rfl, z3, rfl⟩
    rw [List.take_length]
    have e1 : (S ++ [some (O3.lst (res.flatten.map PyData.int))])[S.length]? = some (some (.lst (res.flatten.map PyData.int))) := by simp
    walk_at "rd"
    simp only [e1]
    walk_at "rd"
    exact fin_app q
theorem ok_least_row (T : Txt K mg base) : Ok3 P w K mg base 4 "least_row" sp_least_row := by
  obtain ⟨f, fd, F, hm, hb⟩ := T.f_least_row
  exact Ok3.mk' F hm hb sc_least_row (fun ds S Q h => by simp only [sp_least_row] at h; first | (obtain ⟨rfl, _⟩ := h; rfl) | (obtain ⟨_, rfl, _⟩ := h; rfl) | (obtain ⟨_, _, rfl, _⟩ := h; rfl) | (obtain ⟨_, _, _, rfl, _⟩ := h; rfl) | (obtain ⟨_, _, _, _, rfl, _⟩ := h; rfl) | (obtain ⟨_, _, _, _, _, rfl, _⟩ := h; rfl) | (obtain ⟨_, _, _, _, _, _, rfl, _⟩ := h; rfl) | (obtain ⟨_, _, _, _, _, _, _, rfl, _⟩ := h; rfl) | (obtain ⟨_, _, _, _, _, _, _, _, rfl, _⟩ := h; rfl) | (obtain ⟨_, _, _, _, _, _, _, _, _, rfl, _⟩ := h; rfl) | (obtain ⟨_, _, _, _, _, _, _, _, _, _, rfl, _⟩ := h; rfl) | exact h.2) (fun cdv A outer s H E hr => dv_least_row T hr) rd_least_row
def sp__law_power : Sp3 := fun ds S Q => ∃ (k : Int) (n : Nat), ds = [.p (.int k), .p (.int (n : Nat))] ∧ 0 ≤ k ∧ k ≤ 1000000 ∧ n ≤ 1000 ∧ Q (.p (.int (k ^ n))) S
def t__law_power : TS3 := tSeq3 (tSet3 2 (tC3 (.int 1))) (tSeq3 (tFor3 (tRng1 (tCons3 (tVar3 1) (tNil3))) (.nm 3) (tSet3 2 (tOp3 rMulT3 (tVar3 2) (tVar3 0)))) (tRet3 (tVar3 2)))
theorem dv__law_power (T : Txt K mg base) {f : Addr} {cdv : Value} {A : Around} {outer : List Env} {s : Shared} {H : Hp} {E : XK} (hr : Room 0 (A.deeper (envOfC "_law_power" (defScope s__law_power) s.heap.objs.size f cdv))) : QSs (cxOf CX0 P w K mg base nm__law_power "_law_power" (defScope s__law_power) f cdv A outer s H E).nox (defBody s__law_power) t__law_power :=
  qss_cons (qs_set (i := 2) sc__law_power.nd rfl (by first | exact .inl rfl | exact .inr rfl) (qe_int)) (qss_cons (qs_for PassesOwn.never rfl (qi_range1 (by rfl) T.b_range (qa_cons (qv 1) (qa_nil))) (qb_nm (i := 3) sc__law_power.nd rfl (by first | exact .inl rfl | exact .inr rfl)) (qss_one (qs_set (i := 2) sc__law_power.nd rfl (by first | exact .inl rfl | exact .inr rfl) (qe_op oq_mulT (qv 2) (qv 0))))) (qss_one (qs_ret (qv 2))))
theorem rd__law_power : ∀ ds S Q, sp__law_power ds S Q → t__law_power { nx := fun _ S' => Fin3 S Q (.p .none) S', rt := Fin3 S Q } (env0 4 ds) S := by
  rintro _ S Q ⟨k, n, rfl, h0, h1, hn, q⟩
  unfold t__law_power
  walk_at "rd"
  refine ⟨by omega, fun i e s => ∃ z : Option D, s = S ∧ e = [some (.p (.int k)), some (.p (.int (n : Nat))), some (.p (.int (k ^ i))), z], ⟨none, rfl, by rw [Int.pow_zero]⟩, fun _ _ _ _ => trivial, ?_, ?_⟩
  · rintro i d e s hi ⟨z, rfl, rfl⟩
    obtain ⟨hi, rfl⟩ := rng_get hi
    walk_at "rd"
    exact ⟨.inr (.inl (by omega)), wk_self ⟨_, rfl, by rw [Int.pow_succ]⟩⟩
  · rintro e s ⟨z, rfl, rfl⟩
    rw [rng_len, Int.toNat_natCast]
    walk_at "rd"
    exact fin_p q
theorem ok__law_power (T : Txt K mg base) : Ok3 P w K mg base 1 "_law_power" sp__law_power := by
  obtain ⟨f, fd, F, hm, hb⟩ := T.f__law_power
  exact Ok3.mk' F hm hb sc__law_power (fun ds S Q h => by simp only [sp__law_power] at h; first | (obtain ⟨rfl, _⟩ := h; rfl) | (obtain ⟨_, rfl, _⟩ := h; rfl) | (obtain ⟨_, _, rfl, _⟩ := h; rfl) | (obtain ⟨_, _, _, rfl, _⟩ := h; rfl) | (obtain ⟨_, _, _, _, rfl, _⟩ := h; rfl) | (obtain ⟨_, _, _, _, _, rfl, _⟩ := h; rfl) | (obtain ⟨_, _, _, _, _, _, rfl, _⟩ := h; rfl) | (obtain ⟨_, _, _, _, _, _, _, rfl, _⟩ := h; rfl) | (obtain ⟨_, _, _, _, _, _, _, _, rfl, _⟩ := h; rfl) | (obtain ⟨_, _, _, _, _, _, _, _, _, rfl, _⟩ := h; rfl) | (obtain ⟨_, _, _, _, _, _, _, _, _, _, rfl, _⟩ := h; rfl) | exact h.2) (fun cdv A outer s H E hr => dv__law_power T hr) rd__law_power
def sp__law_hand : Sp3 := fun ds S Q => ∃ (ns : List Int) (k : Int), ds = [.p (.list (ns.map PyData.int)), .p (.int k)] ∧ ns.length ≤ 63 ∧ 0 ≤ k ∧ k ≤ 1000 ∧ ∀ S', HdB S' S.length 0 → S'.take S.length = S → S'.length = S.length + 1 → Q (.loc S.length) S'
def t__law_hand : TS3 := tSeq3 (tSet3 2 (tC3 (.int 0))) (tSeq3 (tIfS3 (tTest3 (tOp3 rLtD3 (tVar3 1) (tCB3 (rLenA3) (tCons3 (tVar3 0) (tNil3))))) (tSet3 2 (tOp3 rIx3 (tVar3 0) (tVar3 1))) (tNext3)) (tSeq3 (tSet3 3 (tOp3 rMulT3 (tOp3 rMod3 (tVar3 2) (tCB3 (rIntT3) (tCons3 (tOp3 rAdd3 (tC3 (.str (PySem.Str.ofString "1"))) (tOp3 rMulS3 (tC3 (.str (PySem.Str.ofString "0"))) (tC3 (.int 4200)))) (tNil3)))) (tCB3 (rIntOf3) (tCons3 (tOp3 rGe3 (tVar3 2) (tOp3 rPow3 (tC3 (.int 10)) (tC3 (.int 18)))) (tNil3))))) (tRet3 (tOwn (tLst3 (tCons3 (tVar3 3) (tCons3 (tOp3 rMod3 (tOp3 rAdd3 (tOp3 rAdd3 (tOp3 rMod3 (tVar3 2) (tC3 (.int 2305843009213693951))) (tOp3 rMulT3 (tC3 (.int 7919)) (tVar3 1))) (tC3 (.int 3))) (tC3 (.int 2305843009213693951))) (tCons3 (tC3 (.int 0)) (tNil3)))))))))
theorem dv__law_hand (T : Txt K mg base) {f : Addr} {cdv : Value} {A : Around} {outer : List Env} {s : Shared} {H : Hp} {E : XK} (hr : Room 0 (A.deeper (envOfC "_law_hand" (defScope s__law_hand) s.heap.objs.size f cdv))) : QSs (cxOf CX0 P w K mg base nm__law_hand "_law_hand" (defScope s__law_hand) f cdv A outer s H E).nox (defBody s__law_hand) t__law_hand :=
  qss_cons (qs_set (i := 2) sc__law_hand.nd rfl (by first | exact .inl rfl | exact .inr rfl) (qe_int)) (qss_cons (qs_if (qt_cmp (oq_ltD hr.units) (qv 1) (qe_cb cq_lenA (by rfl) T.b_len (by decide +kernel) (qa_cons (qv 0) (qa_nil)))) (qss_one (qs_set (i := 2) sc__law_hand.nd rfl (by first | exact .inl rfl | exact .inr rfl) (qe_ix iq_seq (qv 0) (qv 1)))) (qss_nil)) (qss_cons (qs_set (i := 3) sc__law_hand.nd rfl (by first | exact .inl rfl | exact .inr rfl) (qe_op oq_mulT (qe_op oq_mod (qv 2) (qe_ty (cq_intT T.nd) (by rfl) T.b_int (by decide +kernel) (qa_cons (qe_op oq_add (qe_str) (qe_op oq_mulS (qe_str) (qe_int))) (qa_nil)))) (qe_ty cq_int (by rfl) T.b_int (by decide +kernel) (qa_cons (qe_cmp oq_ge (qv 2) (qe_op oq_pow (qe_int) (qe_int))) (qa_nil))))) (qss_one (qs_ret (qn_own (qn_lst (qa_cons (qv 3) (qa_cons (qe_op oq_mod (qe_op oq_add (qe_op oq_add (qe_op oq_mod (qv 2) (qe_int)) (qe_op oq_mulT (qe_int) (qv 1))) (qe_int)) (qe_int)) (qa_cons (qe_int) (qa_nil))))))))))
theorem rd__law_hand : ∀ ds S Q, sp__law_hand ds S Q → t__law_hand { nx := fun _ S' => Fin3 S Q (.p .none) S', rt := Fin3 S Q } (env0 4 ds) S := by
  rintro _ S Q ⟨ns, k, rfl, hl, h0, h1, q⟩
  obtain ⟨N, hN, hN0⟩ := text_big (k := 4200) (by decide) (by decide)
  have hlen : (repS (PySem.Str.ofString "0") 4200).length ≤ 10000 := by
    show (repS (PySem.Str.ofString "0") 4200).cps.size ≤ _
    rw [← Array.length_toList, repS_one (c := 48) (by decide +kernel), List.length_replicate]
    decide
  have l1 : (PySem.Str.ofString "1").length = 1 := by decide +kernel
  unfold t__law_hand
  walk_at "rd"
  have fin : ∀ g x : Int, Fin3 S Q (.loc S.length) (S ++ [some (.lst [.int g, .int x, .int 0])]) := fun g x => fin_new (q _ ⟨g, x, 0, by simp, by decide, by decide⟩ (by simp) (by simp))
  by_cases h : k < (ns.length : Int)
  · rw [if_pos h]
    obtain ⟨n, rfl⟩ := Int.eq_ofNat_of_zero_le h0
    have hn : n < ns.length := by omega
    simp only [show atI (ns.map PyData.int) (n : Int) = some (.int ns[n]) from atI_nat (by rw [List.getElem?_map, List.getElem?_eq_getElem hn]; rfl)]
    generalize ns[n] = c
    refine ⟨⟨by decide +kernel, trivial⟩, by omega, N, hN, hN0, ?_⟩
    walk_at "cj"
    exact fin _ _
  · rw [if_neg h]
    refine ⟨⟨by decide +kernel, trivial⟩, by omega, N, hN, hN0, ?_⟩
    walk_at "cj"
    exact fin _ _
theorem ok__law_hand (T : Txt K mg base) : Ok3 P w K mg base 1 "_law_hand" sp__law_hand := by
  obtain ⟨f, fd, F, hm, hb⟩ := T.f__law_hand
  exact Ok3.mk' F hm hb sc__law_hand (fun ds S Q h => by simp only [sp__law_hand] at h; first | (obtain ⟨rfl, _⟩ := h; rfl) | (obtain ⟨_, rfl, _⟩ := h; rfl) | (obtain ⟨_, _, rfl, _⟩ := h; rfl) | (obtain ⟨_, _, _, rfl, _⟩ := h; rfl) | (obtain ⟨_, _, _, _, rfl, _⟩ := h; rfl) | (obtain ⟨_, _, _, _, _, rfl, _⟩ := h; rfl) | (obtain ⟨_, _, _, _, _, _, rfl, _⟩ := h; rfl) | (obtain ⟨_, _, _, _, _, _, _, rfl, _⟩ := h; rfl) | (obtain ⟨_, _, _, _, _, _, _, _, rfl, _⟩ := h; rfl) | (obtain ⟨_, _, _, _, _, _, _, _, _, rfl, _⟩ := h; rfl) | (obtain ⟨_, _, _, _, _, _, _, _, _, _, rfl, _⟩ := h; rfl) | exact h.2) (fun cdv A outer s H E hr => dv__law_hand T hr) rd__law_hand
def sp__law_take : Sp3 := fun ds S Q => ∃ (n : Nat) (m b : Int), ds = [.loc n, .p (.int m)] ∧ 0 < m ∧ m ≤ 1000000000000 ∧ HdB S n b ∧ b ≤ 1000000000000 ∧ ∀ d S', 0 ≤ d → d < m → HdTo n S S' → HdB S' n (b + 1) → Q (.p (.int d)) S'
def t__law_take : TS3 := tSeq3 (tIfS3 (tTest3 (tOp3 rGt3 (tOp3 rIx3 (tVar3 0) (tC3 (.int 0))) (tC3 (.int 0)))) (tSeq3 (tSet3 2 (tOp3 rMod3 (tOp3 rIx3 (tVar3 0) (tC3 (.int 0))) (tVar3 1))) (tSeq3 (tPut3 (tOp3 rDiv3 (tOp3 rIx3 (tVar3 0) (tC3 (.int 0))) (tVar3 1)) (tVar3 0) (tC3 (.int 0))) (tRet3 (tVar3 2)))) (tNext3)) (tSeq3 (tPut3 (tOp3 rAdd3 (tOp3 rIx3 (tVar3 0) (tC3 (.int 2))) (tC3 (.int 1))) (tVar3 0) (tC3 (.int 2))) (tSeq3 (tSet3 3 (tOp3 rMod3 (tOp3 rMulT3 (tOp3 rAdd3 (tOp3 rAdd3 (tOp3 rIx3 (tVar3 0) (tC3 (.int 1))) (tOp3 rMulT3 (tOp3 rMulT3 (tC3 (.int 65537)) (tOp3 rIx3 (tVar3 0) (tC3 (.int 2)))) (tOp3 rIx3 (tVar3 0) (tC3 (.int 2))))) (tC3 (.int 11))) (tC3 (.int 48271))) (tC3 (.int 2305843009213693921)))) (tSeq3 (tSet3 3 (tOp3 rMod3 (tOp3 rMulT3 (tVar3 3) (tOp3 rAdd3 (tOp3 rMod3 (tVar3 3) (tC3 (.int 1000003))) (tOp3 rMulT3 (tC3 (.int 99991)) (tOp3 rIx3 (tVar3 0) (tC3 (.int 2)))))) (tC3 (.int 2305843009213693907)))) (tRet3 (tOp3 rMod3 (tOp3 rAdd3 (tOp3 rDiv3 (tVar3 3) (tC3 (.int 97))) (tOp3 rDiv3 (tVar3 3) (tC3 (.int 1000033)))) (tVar3 1))))))
theorem dv__law_take (T : Txt K mg base) {f : Addr} {cdv : Value} {A : Around} {outer : List Env} {s : Shared} {H : Hp} {E : XK} (hr : Room 0 (A.deeper (envOfC "_law_take" (defScope s__law_take) s.heap.objs.size f cdv))) : QSs (cxOf CX0 P w K mg base nm__law_take "_law_take" (defScope s__law_take) f cdv A outer s H E).nox (defBody s__law_take) t__law_take :=
  qss_cons (qs_if (qt_cmp oq_gt (qe_ix iq_seq (qv 0) (qe_int)) (qe_int)) (qss_cons (qs_set (i := 2) sc__law_take.nd rfl (by first | exact .inl rfl | exact .inr rfl) (qe_op oq_mod (qe_ix iq_seq (qv 0) (qe_int)) (qv 1))) (qss_cons (qs_put (qe_op oq_div (qe_ix iq_seq (qv 0) (qe_int)) (qv 1)) (qv 0) (qe_int)) (qss_one (qs_ret (qv 2))))) (qss_nil)) (qss_cons (qs_put (qe_op oq_add (qe_ix iq_seq (qv 0) (qe_int)) (qe_int)) (qv 0) (qe_int)) (qss_cons (qs_set (i := 3) sc__law_take.nd rfl (by first | exact .inl rfl | exact .inr rfl) (qe_op oq_mod (qe_op oq_mulT (qe_op oq_add (qe_op oq_add (qe_ix iq_seq (qv 0) (qe_int)) (qe_op oq_mulT (qe_op oq_mulT (qe_int) (qe_ix iq_seq (qv 0) (qe_int))) (qe_ix iq_seq (qv 0) (qe_int)))) (qe_int)) (qe_int)) (qe_int))) (qss_cons (qs_set (i := 3) sc__law_take.nd rfl (by first | exact .inl rfl | exact .inr rfl) (qe_op oq_mod (qe_op oq_mulT (qv 3) (qe_op oq_add (qe_op oq_mod (qv 3) (qe_int)) (qe_op oq_mulT (qe_int) (qe_ix iq_seq (qv 0) (qe_int))))) (qe_int))) (qss_one (qs_ret (qe_op oq_mod (qe_op oq_add (qe_op oq_div (qv 3) (qe_int)) (qe_op oq_div (qv 3) (qe_int))) (qv 1)))))))
theorem rd__law_take : ∀ ds S Q, sp__law_take ds S Q → t__law_take { nx := fun _ S' => Fin3 S Q (.p .none) S', rt := Fin3 S Q } (env0 4 ds) S := by
  rintro _ S Q ⟨n, m, b, rfl, h0, h1, hd, hb, q⟩
  have hlt := hd.hd.lt
  obtain ⟨g, x, c, hs, c0, c1⟩ := hd
  unfold t__law_take
  walk_at "rd"
  simp only [hs, List.getElem?_set_self hlt]
  walk_at "rd"
  try simp only [hs, List.getElem?_set_self hlt]
  walk_at "rd"
  by_cases hg : 0 < g
  · rw [if_pos hg]
    refine ⟨h0, ⟨h0, .inl (by omega)⟩, fin_hd ⟨_, _, _, rfl⟩ (q _ _ (Int.emod_nonneg _ (by omega)) (Int.emod_lt_of_pos _ h0) ⟨_, _, _, rfl⟩ ⟨_, _, _, List.getElem?_set_self hlt, c0, by omega⟩)⟩
  · rw [if_neg hg]
    have := Int.emod_nonneg ((x + 65537 * (c + 1) * (c + 1) + 11) * 48271) (show (2305843009213693921 : Int) ≠ 0 by decide)
    have := Int.emod_lt_of_pos ((x + 65537 * (c + 1) * (c + 1) + 11) * 48271) (show (0 : Int) < 2305843009213693921 by decide)
    walk_at "cj"
    refine fin_hd ⟨_, _, _, rfl⟩ (q _ _ (Int.emod_nonneg _ (by omega)) (Int.emod_lt_of_pos _ h0) ⟨_, _, _, rfl⟩ ⟨_, _, _, List.getElem?_set_self hlt, by omega, by omega⟩)
theorem ok__law_take (T : Txt K mg base) : Ok3 P w K mg base 1 "_law_take" sp__law_take := by
  obtain ⟨f, fd, F, hm, hb⟩ := T.f__law_take
  exact Ok3.mk' F hm hb sc__law_take (fun ds S Q h => by simp only [sp__law_take] at h; first | (obtain ⟨rfl, _⟩ := h; rfl) | (obtain ⟨_, rfl, _⟩ := h; rfl) | (obtain ⟨_, _, rfl, _⟩ := h; rfl) | (obtain ⟨_, _, _, rfl, _⟩ := h; rfl) | (obtain ⟨_, _, _, _, rfl, _⟩ := h; rfl) | (obtain ⟨_, _, _, _, _, rfl, _⟩ := h; rfl) | (obtain ⟨_, _, _, _, _, _, rfl, _⟩ := h; rfl) | (obtain ⟨_, _, _, _, _, _, _, rfl, _⟩ := h; rfl) | (obtain ⟨_, _, _, _, _, _, _, _, rfl, _⟩ := h; rfl) | (obtain ⟨_, _, _, _, _, _, _, _, _, rfl, _⟩ := h; rfl) | (obtain ⟨_, _, _, _, _, _, _, _, _, _, rfl, _⟩ := h; rfl) | exact h.2) (fun cdv A outer s H E hr => dv__law_take T hr) rd__law_take
def sp__law_pick : Sp3 := fun ds S Q => ∃ (n : Nat) (b : Int) (xs : List PyData), ds = [.loc n, .p (.list xs)] ∧ xs ≠ [] ∧ xs.length ≤ 1000000 ∧ HdB S n b ∧ b ≤ 1000000000000 ∧ ∀ x S', x ∈ xs → HdTo n S S' → HdB S' n (b + 1) → Q (.p x) S'
def t__law_pick : TS3 := tRet3 (tOp3 rIx3 (tVar3 1) (tCB3 sp__law_take (tCons3 (tVar3 0) (tCons3 (tCB3 (rLenA3) (tCons3 (tVar3 1) (tNil3))) (tNil3)))))
theorem dv__law_pick (T : Txt K mg base) {f : Addr} {cdv : Value} {A : Around} {outer : List Env} {s : Shared} {H : Hp} {E : XK} (hr : Room 1 (A.deeper (envOfC "_law_pick" (defScope s__law_pick) s.heap.objs.size f cdv))) : QSs (cxOf CX0 P w K mg base nm__law_pick "_law_pick" (defScope s__law_pick) f cdv A outer s H E).nox (defBody s__law_pick) t__law_pick :=
  qss_one (qs_ret (qe_ix iq_seq (qv 1) (qe_call (ok__law_take T) (hr.mono (by decide)) (by rfl) (qa_cons (qv 0) (qa_cons (qe_cb cq_lenA (by rfl) T.b_len (by decide +kernel) (qa_cons (qv 1) (qa_nil))) (qa_nil))))))
theorem rd__law_pick : ∀ ds S Q, sp__law_pick ds S Q → t__law_pick { nx := fun _ S' => Fin3 S Q (.p .none) S', rt := Fin3 S Q } (env0 2 ds) S := by
  rintro _ S Q ⟨n, b, xs, rfl, hne, hl, hd, hb, q⟩
  have hpos : 0 < xs.length := List.length_pos_iff.mpr hne
  unfold t__law_pick sp__law_take
  walk_at "rd"
  refine ⟨n, _, b, rfl, by omega, by omega, hd, hb, fun d S' a0 a1 t hd' => ?_⟩
  obtain ⟨j, x, rfl, hj, hx, e⟩ := atI_lt a0 a1
  simp only [e]
  exact fin_hd t (q x S' (List.mem_of_getElem? hx) t hd')
theorem ok__law_pick (T : Txt K mg base) : Ok3 P w K mg base 2 "_law_pick" sp__law_pick := by
  obtain ⟨f, fd, F, hm, hb⟩ := T.f__law_pick
  exact Ok3.mk' F hm hb sc__law_pick (fun ds S Q h => by simp only [sp__law_pick] at h; first | (obtain ⟨rfl, _⟩ := h; rfl) | (obtain ⟨_, rfl, _⟩ := h; rfl) | (obtain ⟨_, _, rfl, _⟩ := h; rfl) | (obtain ⟨_, _, _, rfl, _⟩ := h; rfl) | (obtain ⟨_, _, _, _, rfl, _⟩ := h; rfl) | (obtain ⟨_, _, _, _, _, rfl, _⟩ := h; rfl) | (obtain ⟨_, _, _, _, _, _, rfl, _⟩ := h; rfl) | (obtain ⟨_, _, _, _, _, _, _, rfl, _⟩ := h; rfl) | (obtain ⟨_, _, _, _, _, _, _, _, rfl, _⟩ := h; rfl) | (obtain ⟨_, _, _, _, _, _, _, _, _, rfl, _⟩ := h; rfl) | (obtain ⟨_, _, _, _, _, _, _, _, _, _, rfl, _⟩ := h; rfl) | exact h.2) (fun cdv A outer s H E hr => dv__law_pick T hr) rd__law_pick
def sp__law_same (n : Nat) : Sp3 := fun ds S Q => ∃ d : PyData, ds = [.p d, .p d] ∧ IT n d ∧ Q (.p (.bool true)) S
def spr__law_same : Nat → Sp3
  | 0 => fun _ _ _ => False
  | n + 1 => sp__law_same n
def t__law_same (n : Nat) : TS3 := tSeq3 (tIfS3 (tTest3 (tIsi3 "tuple" (tVar3 1))) (tSeq3 (tIfS3 (tOr3 (tNot3 (tTest3 (tIsi3 "tuple" (tVar3 0)))) (tTest3 (tOp3 rNeS3 (tCB3 (rLenA3) (tCons3 (tVar3 0) (tNil3))) (tCB3 (rLenA3) (tCons3 (tVar3 1) (tNil3)))))) (tRet3 (tC3 (.bool false))) (tNext3)) (tRet3 (tCB3 (rAll3) (tCons3 (tPure (tLc3 (tZipI3 (tCons3 (tVar3 0) (tCons3 (tVar3 1) (tNil3)))) (.tup (.cons (.nm 2) (.cons (.nm 3) (.nil)))) (tYes3) (tCB3 (spr__law_same n) (tCons3 (tVar3 2) (tCons3 (tVar3 3) (tNil3)))) [2, 3])) (tNil3))))) (tNext3)) (tRet3 (tAndV3 (tIsi3 "int" (tVar3 0)) (tAndV3 (tNotV3 (tIsi3 "bool" (tVar3 0))) (tOp3 rEqS3 (tVar3 0) (tVar3 1)))))
theorem dv__law_same (T : Txt K mg base) (n : Nat) {f : Addr} {cdv : Value} {A : Around} {outer : List Env} {s : Shared} {H : Hp} {E : XK} (ih : Ok3 P w K mg base (n + 0) "_law_same" (spr__law_same n)) (hr : Room (n + 0) (A.deeper (envOfC "_law_same" (defScope s__law_same) s.heap.objs.size f cdv))) : QSs (cxOf CX0 P w K mg base nm__law_same "_law_same" (defScope s__law_same) f cdv A outer s H E).nox (defBody s__law_same) (t__law_same n) :=
  qss_cons (qs_if (qt_val (qe_isi (T := "tuple") (by decide +kernel) (by rfl) (T.b_isinstance) (by rfl) (T.b_tuple) (by decide +kernel) (by decide) (by decide) (qv 1))) (qss_cons (qs_if (qt_w (qw_or (qt_not (qt_val (qe_isi (T := "tuple") (by decide +kernel) (by rfl) (T.b_isinstance) (by rfl) (T.b_tuple) (by decide +kernel) (by decide) (by decide) (qv 0)))) (qw_or1 (qt_cmp (oq_neS hr.units) (qe_cb cq_lenA (by rfl) T.b_len (by decide +kernel) (qa_cons (qv 0) (qa_nil))) (qe_cb cq_lenA (by rfl) T.b_len (by decide +kernel) (qa_cons (qv 1) (qa_nil))))))) (qss_one (qs_ret (qe_bl))) (qss_nil)) (qss_one (qs_ret (qe_cb (cq_all rfl) (by rfl) T.b_all (by decide +kernel) (qa_cons (qn_pure (qn_lc (own := [("_law_one", 2), ("_law_other", 3)]) rfl sc__law_same.nd (qi_zip rfl (by rfl) T.b_zip (qa_cons (qv 0) (qa_cons (qv 1) (qa_nil)))) (blkOk_by (own := [("_law_one", 2), ("_law_other", 3)]) (N := nm__law_same) (sc := defScope s__law_same) (by decide +kernel)) (fun _ _ _ _ _ => qb_tup rfl (qbs_cons (qb_nm (i := 2) sc__law_same.nd rfl (by first | exact .inl rfl | exact .inr rfl)) (qbs_cons (qb_nm (i := 3) sc__law_same.nd rfl (by first | exact .inl rfl | exact .inr rfl)) (qbs_nil)))) (fun _ _ _ _ _ => qts_nil) (fun _ _ _ _ _ => qe_call ih hr (by rfl) (qa_cons (qv 2) (qa_cons (qv 3) (qa_nil)))))) (qa_nil)))))) (qss_nil)) (qss_one (qs_ret (qe_and (qe_isi (T := "int") (by decide +kernel) (by rfl) (T.b_isinstance) (by rfl) (T.b_int) (by decide +kernel) (by decide) (by decide) (qv 0)) (qe_and (qe_not (qe_isi (T := "bool") (by decide +kernel) (by rfl) (T.b_isinstance) (by rfl) (T.b_bool) (by decide +kernel) (by decide) (by decide) (qv 0))) (qe_one (qe_cmp (oq_eqS hr.units) (qv 0) (qv 1)))))))
theorem rd__law_same : ∀ n ds S Q, sp__law_same n ds S Q → t__law_same n { nx := fun _ S' => Fin3 S Q (.p .none) S', rt := Fin3 S Q } (env0 4 ds) S := by
  rintro n _ S Q ⟨d, rfl, hd, q⟩
  unfold t__law_same
  cases d with
  | int i =>
    walk_at "rd"
    exact fin_p q
  | tuple es =>
    obtain ⟨m, rfl, hm⟩ := it_tup hd
    walk_at "rd"
    refine ⟨fun i acc s => s = S ∧ acc = (List.replicate i true).map PyData.bool, ⟨rfl, rfl⟩, fun _ _ _ _ => trivial, ?_, ?_⟩
    · rintro i d acc s hx ⟨rfl, rfl⟩
      obtain ⟨a, b, h1, h2, rfl⟩ := zip3_get hx
      rw [h1] at h2
      cases h2
      walk_at "rd"
      refine ⟨a, rfl, hm a (List.mem_of_getElem? h1), rfl, ?_⟩
      exact rep_snoc PyData.bool true i
    · rintro acc s ⟨rfl, rfl⟩
      simp only [allP_bls, all_true]
      exact fin_p q
  | none => cases n <;> exact hd.elim
  | bool b => cases n <;> exact hd.elim
  | str b => cases n <;> exact hd.elim
  | list b => cases n <;> exact hd.elim
  | dict b => cases n <;> exact hd.elim
theorem ok__law_same (T : Txt K mg base) : ∀ n, Ok3 P w K mg base (n + 1) "_law_same" (sp__law_same n)
  | 0 => by
    obtain ⟨f, fd, F, hm, hb⟩ := T.f__law_same
    exact Ok3.mk' (k := (0) + 0) F hm hb sc__law_same (fun ds S Q h => by simp only [sp__law_same] at h; first | (obtain ⟨rfl, _⟩ := h; rfl) | (obtain ⟨_, rfl, _⟩ := h; rfl) | (obtain ⟨_, _, rfl, _⟩ := h; rfl) | (obtain ⟨_, _, _, rfl, _⟩ := h; rfl) | exact h.2) (fun cdv A outer s H E hr => dv__law_same T (0) (ok3_never F hm hb) hr) (rd__law_same (0))
  | n + 1 => by
    obtain ⟨f, fd, F, hm, hb⟩ := T.f__law_same
    exact Ok3.mk' (k := (n + 1) + 0) F hm hb sc__law_same (fun ds S Q h => by simp only [sp__law_same] at h; first | (obtain ⟨rfl, _⟩ := h; rfl) | (obtain ⟨_, rfl, _⟩ := h; rfl) | (obtain ⟨_, _, rfl, _⟩ := h; rfl) | (obtain ⟨_, _, _, rfl, _⟩ := h; rfl) | exact h.2) (fun cdv A outer s H E hr => dv__law_same T (n + 1) (ok__law_same T n) hr) (rd__law_same (n + 1))
def sp__law_sizes : Sp3 := fun ds S Q => ∃ (n : Nat) (b : Int), ds = [.loc n] ∧ HdB S n b ∧ b ≤ 1000000 ∧ ∀ (k m : Nat) S', 0 < k → k ≤ 600 → 0 < m → m ≤ 40 → k ^ m ≤ 600 → okT k m = true → HdTo n S S' → HdB S' n (b + 20) → Q (.p (.tuple [.int (k : Nat), .int (m : Nat)])) S'
def t__law_sizes_r4 : TS3 := tSeq3 (tIfS3 (tTest3 (tOp3 rEqS3 (tVar3 3) (tC3 (.int 0)))) (tSeq3 (tSet3 3 (tOp3 rAdd3 (tC3 (.int 2)) (tCB3 sp__law_take (tCons3 (tVar3 0) (tCons3 (tC3 (.int 23)) (tNil3)))))) (tSeq3 (tSet3 5 (tCB3 (rMaxL3) (tCons3 (tPure (tLc3 (tRng2 (tCons3 (tC3 (.int 1)) (tCons3 (tC3 (.int 10)) (tNil3)))) (.nm 6) (tTest3 (tOp3 rLe3 (tCB3 sp__law_power (tCons3 (tVar3 3) (tCons3 (tVar3 6) (tNil3)))) (tC3 (.int 600)))) (tVar3 6) [6])) (tNil3)))) (tSet3 4 (tOp3 rIx3 (tPure (tLst3 (tCons3 (tVar3 5) (tCons3 (tOp3 rAdd3 (tC3 (.int 1)) (tCB3 sp__law_take (tCons3 (tVar3 0) (tCons3 (tVar3 5) (tNil3))))) (tNil3))))) (tCB3 sp__law_take (tCons3 (tVar3 0) (tCons3 (tC3 (.int 2)) (tNil3)))))))) (tNext3)) (tRet3 (tTup3 (tCons3 (tVar3 3) (tCons3 (tVar3 4) (tNil3)))))
def t__law_sizes : TS3 := tSeq3 (tSet3 1 (tPure (tLst3 (tCons3 (tTup3 (tCons3 (tC3 (.int 1)) (tCons3 (tC3 (.int 1)) (tNil3)))) (tCons3 (tTup3 (tCons3 (tC3 (.int 1)) (tCons3 (tC3 (.int 4)) (tNil3)))) (tCons3 (tTup3 (tCons3 (tC3 (.int 2)) (tCons3 (tC3 (.int 1)) (tNil3)))) (tCons3 (tTup3 (tCons3 (tC3 (.int 2)) (tCons3 (tC3 (.int 2)) (tNil3)))) (tCons3 (tTup3 (tCons3 (tC3 (.int 2)) (tCons3 (tC3 (.int 3)) (tNil3)))) (tCons3 (tTup3 (tCons3 (tC3 (.int 2)) (tCons3 (tC3 (.int 4)) (tNil3)))) (tCons3 (tTup3 (tCons3 (tC3 (.int 2)) (tCons3 (tC3 (.int 5)) (tNil3)))) (tCons3 (tTup3 (tCons3 (tC3 (.int 3)) (tCons3 (tC3 (.int 1)) (tNil3)))) (tCons3 (tTup3 (tCons3 (tC3 (.int 3)) (tCons3 (tC3 (.int 2)) (tNil3)))) (tCons3 (tTup3 (tCons3 (tC3 (.int 3)) (tCons3 (tC3 (.int 3)) (tNil3)))) (tCons3 (tTup3 (tCons3 (tC3 (.int 4)) (tCons3 (tC3 (.int 2)) (tNil3)))) (tCons3 (tTup3 (tCons3 (tC3 (.int 5)) (tCons3 (tC3 (.int 2)) (tNil3)))) (tCons3 (tTup3 (tCons3 (tC3 (.int 6)) (tCons3 (tC3 (.int 2)) (tNil3)))) (tNil3))))))))))))))))) (tSeq3 (tSet3 2 (tPure (tLst3 (tCons3 (tTup3 (tCons3 (tC3 (.int 2)) (tCons3 (tC3 (.int 6)) (tNil3)))) (tCons3 (tTup3 (tCons3 (tC3 (.int 2)) (tCons3 (tC3 (.int 7)) (tNil3)))) (tCons3 (tTup3 (tCons3 (tC3 (.int 2)) (tCons3 (tC3 (.int 8)) (tNil3)))) (tCons3 (tTup3 (tCons3 (tC3 (.int 2)) (tCons3 (tC3 (.int 9)) (tNil3)))) (tCons3 (tTup3 (tCons3 (tC3 (.int 3)) (tCons3 (tC3 (.int 4)) (tNil3)))) (tCons3 (tTup3 (tCons3 (tC3 (.int 3)) (tCons3 (tC3 (.int 5)) (tNil3)))) (tCons3 (tTup3 (tCons3 (tC3 (.int 4)) (tCons3 (tC3 (.int 3)) (tNil3)))) (tCons3 (tTup3 (tCons3 (tC3 (.int 4)) (tCons3 (tC3 (.int 4)) (tNil3)))) (tCons3 (tTup3 (tCons3 (tC3 (.int 5)) (tCons3 (tC3 (.int 3)) (tNil3)))) (tCons3 (tTup3 (tCons3 (tC3 (.int 6)) (tCons3 (tC3 (.int 3)) (tNil3)))) (tCons3 (tTup3 (tCons3 (tC3 (.int 7)) (tCons3 (tC3 (.int 3)) (tNil3)))) (tCons3 (tTup3 (tCons3 (tC3 (.int 8)) (tCons3 (tC3 (.int 3)) (tNil3)))) (tCons3 (tTup3 (tCons3 (tC3 (.int 23)) (tCons3 (tC3 (.int 2)) (tNil3)))) (tNil3))))))))))))))))) (tSeq3 (tSet3 2 (tOp3 rAdd3 (tVar3 2) (tPure (tLst3 (tCons3 (tTup3 (tCons3 (tC3 (.int 24)) (tCons3 (tC3 (.int 2)) (tNil3)))) (tCons3 (tTup3 (tCons3 (tC3 (.int 0)) (tCons3 (tC3 (.int 0)) (tNil3)))) (tCons3 (tTup3 (tCons3 (tC3 (.int 9)) (tCons3 (tC3 (.int 1)) (tNil3)))) (tCons3 (tTup3 (tCons3 (tC3 (.int 599)) (tCons3 (tC3 (.int 1)) (tNil3)))) (tCons3 (tTup3 (tCons3 (tC3 (.int 600)) (tCons3 (tC3 (.int 1)) (tNil3)))) (tCons3 (tTup3 (tCons3 (tC3 (.int 1)) (tCons3 (tC3 (.int 40)) (tNil3)))) (tNil3))))))))))) (tSeq3 (tAsgT3 (tCB3 sp__law_pick (tCons3 (tVar3 0) (tCons3 (tOp3 rIx3 (tPure (tLst3 (tCons3 (tVar3 1) (tCons3 (tVar3 2) (tNil3))))) (tCB3 (rIntOf3) (tCons3 (tOp3 rEqS3 (tCB3 sp__law_take (tCons3 (tVar3 0) (tCons3 (tC3 (.int 6)) (tNil3)))) (tC3 (.int 5))) (tNil3)))) (tNil3)))) (.tup (.cons (.nm 3) (.cons (.nm 4) (.nil))))) (t__law_sizes_r4))))
theorem dv__law_sizes (T : Txt K mg base) {f : Addr} {cdv : Value} {A : Around} {outer : List Env} {s : Shared} {H : Hp} {E : XK} (hr : Room 2 (A.deeper (envOfC "_law_sizes" (defScope s__law_sizes) s.heap.objs.size f cdv))) : QSs (cxOf CX0 P w K mg base nm__law_sizes "_law_sizes" (defScope s__law_sizes) f cdv A outer s H E).nox (defBody s__law_sizes) t__law_sizes :=
  qss_cons (qs_set (i := 1) sc__law_sizes.nd rfl (by first | exact .inl rfl | exact .inr rfl) (qn_pure (qn_lst (qa_cons (qe_tup (qa_cons (qe_int) (qa_cons (qe_int) (qa_nil)))) (qa_cons (qe_tup (qa_cons (qe_int) (qa_cons (qe_int) (qa_nil)))) (qa_cons (qe_tup (qa_cons (qe_int) (qa_cons (qe_int) (qa_nil)))) (qa_cons (qe_tup (qa_cons (qe_int) (qa_cons (qe_int) (qa_nil)))) (qa_cons (qe_tup (qa_cons (qe_int) (qa_cons (qe_int) (qa_nil)))) (qa_cons (qe_tup (qa_cons (qe_int) (qa_cons (qe_int) (qa_nil)))) (qa_cons (qe_tup (qa_cons (qe_int) (qa_cons (qe_int) (qa_nil)))) (qa_cons (qe_tup (qa_cons (qe_int) (qa_cons (qe_int) (qa_nil)))) (qa_cons (qe_tup (qa_cons (qe_int) (qa_cons (qe_int) (qa_nil)))) (qa_cons (qe_tup (qa_cons (qe_int) (qa_cons (qe_int) (qa_nil)))) (qa_cons (qe_tup (qa_cons (qe_int) (qa_cons (qe_int) (qa_nil)))) (qa_cons (qe_tup (qa_cons (qe_int) (qa_cons (qe_int) (qa_nil)))) (qa_cons (qe_tup (qa_cons (qe_int) (qa_cons (qe_int) (qa_nil)))) (qa_nil))))))))))))))))) (qss_cons (qs_set (i := 2) sc__law_sizes.nd rfl (by first | exact .inl rfl | exact .inr rfl) (qn_pure (qn_lst (qa_cons (qe_tup (qa_cons (qe_int) (qa_cons (qe_int) (qa_nil)))) (qa_cons (qe_tup (qa_cons (qe_int) (qa_cons (qe_int) (qa_nil)))) (qa_cons (qe_tup (qa_cons (qe_int) (qa_cons (qe_int) (qa_nil)))) (qa_cons (qe_tup (qa_cons (qe_int) (qa_cons (qe_int) (qa_nil)))) (qa_cons (qe_tup (qa_cons (qe_int) (qa_cons (qe_int) (qa_nil)))) (qa_cons (qe_tup (qa_cons (qe_int) (qa_cons (qe_int) (qa_nil)))) (qa_cons (qe_tup (qa_cons (qe_int) (qa_cons (qe_int) (qa_nil)))) (qa_cons (qe_tup (qa_cons (qe_int) (qa_cons (qe_int) (qa_nil)))) (qa_cons (qe_tup (qa_cons (qe_int) (qa_cons (qe_int) (qa_nil)))) (qa_cons (qe_tup (qa_cons (qe_int) (qa_cons (qe_int) (qa_nil)))) (qa_cons (qe_tup (qa_cons (qe_int) (qa_cons (qe_int) (qa_nil)))) (qa_cons (qe_tup (qa_cons (qe_int) (qa_cons (qe_int) (qa_nil)))) (qa_cons (qe_tup (qa_cons (qe_int) (qa_cons (qe_int) (qa_nil)))) (qa_nil))))))))))))))))) (qss_cons (qs_set (i := 2) sc__law_sizes.nd rfl (by first | exact .inl rfl | exact .inr rfl) (qe_op oq_add (qv 2) (qn_pure (qn_lst (qa_cons (qe_tup (qa_cons (qe_int) (qa_cons (qe_int) (qa_nil)))) (qa_cons (qe_tup (qa_cons (qe_int) (qa_cons (qe_int) (qa_nil)))) (qa_cons (qe_tup (qa_cons (qe_int) (qa_cons (qe_int) (qa_nil)))) (qa_cons (qe_tup (qa_cons (qe_int) (qa_cons (qe_int) (qa_nil)))) (qa_cons (qe_tup (qa_cons (qe_int) (qa_cons (qe_int) (qa_nil)))) (qa_cons (qe_tup (qa_cons (qe_int) (qa_cons (qe_int) (qa_nil)))) (qa_nil))))))))))) (qss_cons (qs_asgT (qe_call (ok__law_pick T) (hr.mono (by decide)) (by rfl) (qa_cons (qv 0) (qa_cons (qe_ix iq_seq (qn_pure (qn_lst (qa_cons (qv 1) (qa_cons (qv 2) (qa_nil))))) (qe_ty cq_int (by rfl) T.b_int (by decide +kernel) (qa_cons (qe_cmp (oq_eqS hr.units) (qe_call (ok__law_take T) (hr.mono (by decide)) (by rfl) (qa_cons (qv 0) (qa_cons (qe_int) (qa_nil)))) (qe_int)) (qa_nil)))) (qa_nil)))) (qb_tup rfl (qbs_cons (qb_nm (i := 3) sc__law_sizes.nd rfl (by first | exact .inl rfl | exact .inr rfl)) (qbs_cons (qb_nm (i := 4) sc__law_sizes.nd rfl (by first | exact .inl rfl | exact .inr rfl)) (qbs_nil))))) (qss_cons (qs_if (qt_cmp (oq_eqS hr.units) (qv 3) (qe_int)) (qss_cons (qs_set (i := 3) sc__law_sizes.nd rfl (by first | exact .inl rfl | exact .inr rfl) (qe_op oq_add (qe_int) (qe_call (ok__law_take T) (hr.mono (by decide)) (by rfl) (qa_cons (qv 0) (qa_cons (qe_int) (qa_nil)))))) (qss_cons (qs_set (i := 5) sc__law_sizes.nd rfl (by first | exact .inl rfl | exact .inr rfl) (qe_cb (cq_maxL rfl) (by rfl) T.b_max (by decide +kernel) (qa_cons (qn_pure (qn_lc (own := [("_law_long", 6)]) rfl sc__law_sizes.nd (qi_range2 (by rfl) T.b_range (qa_cons (qe_int) (qa_cons (qe_int) (qa_nil)))) (blkOk_by (own := [("_law_long", 6)]) (N := nm__law_sizes) (sc := defScope s__law_sizes) (by decide +kernel)) (fun _ _ _ _ _ => qb_nm (i := 6) sc__law_sizes.nd rfl (by first | exact .inl rfl | exact .inr rfl)) (fun _ _ _ _ _ => qts_one (qt_cmp oq_le (qe_call (ok__law_power T) (hr.mono (by decide)) (by rfl) (qa_cons (qv 3) (qa_cons (qv 6) (qa_nil)))) (qe_int))) (fun _ _ _ _ _ => qv 6))) (qa_nil)))) (qss_one (qs_set (i := 4) sc__law_sizes.nd rfl (by first | exact .inl rfl | exact .inr rfl) (qe_ix iq_seq (qn_pure (qn_lst (qa_cons (qv 5) (qa_cons (qe_op oq_add (qe_int) (qe_call (ok__law_take T) (hr.mono (by decide)) (by rfl) (qa_cons (qv 0) (qa_cons (qv 5) (qa_nil))))) (qa_nil))))) (qe_call (ok__law_take T) (hr.mono (by decide)) (by rfl) (qa_cons (qv 0) (qa_cons (qe_int) (qa_nil))))))))) (qss_nil)) (qss_one (qs_ret (qe_tup (qa_cons (qv 3) (qa_cons (qv 4) (qa_nil))))))))))
theorem rd__law_sizes : ∀ ds S Q, sp__law_sizes ds S Q → t__law_sizes { nx := fun _ S' => Fin3 S Q (.p .none) S', rt := Fin3 S Q } (env0 7 ds) S := by
  rintro _ S Q ⟨n, b, rfl, hd, hb, q⟩
  unfold t__law_sizes sp__law_take sp__law_pick
  walk_at "rd"
  refine ⟨n, 6, b, rfl, by decide, by decide, hd, by omega, fun d1 S1 a1 b1 t1 hd1 => ?_⟩
  have tail : ∀ (z1 z2 : Option D) (x : PyData) (S2 : S3), PairT x → HdTo n S1 S2 → HdB S2 n (b + 2) → ∀ k m : Int, x = .tuple [.int k, .int m] → t__law_sizes_r4 { nx := fun _ S' => Fin3 S Q (.p .none) S', rt := Fin3 S Q } [some (.loc n), z1, z2, some (.p (.int k)), some (.p (.int m)), none, none] S2 := by
    rintro z1 z2 x S2 ⟨k, m, rfl, hkm⟩ t2 hd2 k' m' e
    simp only [PyData.tuple.injEq, List.cons.injEq, PyData.int.injEq, and_true] at e
    obtain ⟨rfl, rfl⟩ := e
    have tt := t1.trans t2
    unfold t__law_sizes_r4 sp__law_take sp__law_power
    walk_at "rd"
    by_cases hk : k = 0
    · rw [if_pos (show ((k : Nat) : Int) = 0 by omega)]
      refine ⟨n, 23, _, rfl, by decide, by decide, hd2, by omega, fun d3 S3 a3 b3 t3 hd3 => ?_⟩
      obtain ⟨c, rfl⟩ := Int.eq_ofNat_of_zero_le a3
      walk_at "rd"
      refine ⟨fun i acc s => ∃ ns : List Int, s = S3 ∧ acc = ns.map PyData.int ∧ (∀ y ∈ ns, ∃ j : Nat, y = (j : Nat) ∧ 0 < j ∧ j ≤ 9 ∧ (c + 2) ^ j ≤ 600) ∧ (0 < i → ns ≠ []), ⟨[], rfl, rfl, by simp, by simp⟩, fun _ _ _ _ => trivial, ?_, ?_⟩
      · rintro i x acc s hx ⟨ns, rfl, rfl, h1, h2⟩
        obtain ⟨hi, rfl⟩ := rng_get hx
        have hi9 : i < 9 := by simpa using hi
        walk_at "rd"
        refine ⟨2 + (c : Nat), i + 1, by rw [show (1 : Int) + (i : Nat) = ((i + 1 : Nat) : Int) by omega], by omega, by omega, by omega, ?_⟩
        have hcast : (2 + (c : Int)) ^ (i + 1) = (((c + 2) ^ (i + 1) : Nat) : Int) := by
          rw [Int.natCast_pow]
          congr 1
          omega
        rw [hcast]
        by_cases hp : (c + 2) ^ (i + 1) ≤ 600
        · rw [if_pos (by omega)]
          refine ⟨ns ++ [1 + (i : Int)], by rw [List.map_append]; rfl, fun y hy => ?_, by simp⟩
          rcases List.mem_append.mp hy with hy | hy
          · exact h1 y hy
          · rw [List.mem_singleton.mp hy]
            exact ⟨i + 1, by omega, by omega, by omega, hp⟩
        · rw [if_neg (by omega)]
          refine ⟨ns, rfl, h1, fun _ => ?_⟩
          rcases Nat.eq_zero_or_pos i with z | z
          · subst z
            rw [Nat.zero_add, Nat.pow_one] at hp
            omega
          · exact h2 z
      · rintro acc s ⟨ns, rfl, rfl, h1, h2⟩
        have hne : ns ≠ [] := h2 (by rw [rng_len]; decide)
        simp only [allP_ints]
        obtain ⟨mx, hmx, hm1, hm2, hm3⟩ := h1 _ (maxI_mem hne)
        rw [hmx]
        walk_at "rd"
        refine ⟨hne, n, mx, _, rfl, by omega, by omega, hd3, by omega, fun d4 S4 a4 b4 t4 hd4 => ?_⟩
        walk_at "rd"
        refine ⟨n, 2, _, rfl, by decide, by decide, hd4, by omega, fun d5 S5 a5 b5 t5 hd5 => ?_⟩
        obtain ⟨j, x, rfl, hj, hx, e⟩ := atI_lt (xs := [PyData.int mx, .int (1 + d4)]) a5 b5
        rw [e]
        have hx2 := List.mem_of_getElem? hx
        simp only [List.mem_cons, List.not_mem_nil, or_false] at hx2
        have t6 := ((tt.trans t3).trans t4).trans t5
        obtain ⟨m', rfl, h6, h7⟩ : ∃ m' : Nat, x = .int (m' : Nat) ∧ 0 < m' ∧ m' ≤ mx := by
          rcases hx2 with rfl | rfl
          · exact ⟨mx, rfl, by omega, by omega⟩
          · exact ⟨(1 + d4).toNat, by rw [Int.toNat_of_nonneg (by omega)], by omega, by omega⟩
        have hp6 : (c + 2) ^ m' ≤ 600 := Nat.le_trans (Nat.pow_le_pow_right (by omega) h7) hm3
        obtain ⟨m'', rfl⟩ : ∃ m'', m' = m'' + 1 := ⟨m' - 1, by omega⟩
        have hck := far_okT (a := c) (b := m'') (by omega) (by omega) hp6
        walk_at "rd"
        rw [show (2 : Int) + (c : Nat) = ((c + 2 : Nat) : Int) by omega]
        exact fin_hd t6 (q _ (m'' + 1) S5 (by omega) (by omega) h6 (by omega) hp6 hck t6 (hd5.le (by omega)))
    · rw [if_neg (show ¬ ((k : Nat) : Int) = 0 by omega)]
      have h := hkm.resolve_left fun z => hk z.1
      walk_at "rd"
      exact fin_hd tt (q _ _ S2 h.1 h.2.1 h.2.2.1 h.2.2.2.1 h.2.2.2.2.1 h.2.2.2.2.2 tt (hd2.le (by omega)))
  by_cases h5 : d1 = 5
  · rw [if_pos h5]
    walk_at "rd"
    refine ⟨n, _, _, rfl, by simp, by simp, hd1, by omega, fun x S2 hx t2 hd2 => ?_⟩
    have ok : PairT x := many_okT hx
    obtain ⟨k, m, rfl, hkm⟩ := id ok
    walk_at "rd"
    exact tail _ _ _ S2 ok t2 (hd2.le (by omega)) _ _ rfl
  · rw [if_neg h5]
    walk_at "rd"
    refine ⟨n, _, _, rfl, by simp, by simp, hd1, by omega, fun x S2 hx t2 hd2 => ?_⟩
    have ok : PairT x := few_okT hx
    obtain ⟨k, m, rfl, hkm⟩ := id ok
    walk_at "rd"
    exact tail _ _ _ S2 ok t2 (hd2.le (by omega)) _ _ rfl
theorem ok__law_sizes (T : Txt K mg base) : Ok3 P w K mg base 3 "_law_sizes" sp__law_sizes := by
  obtain ⟨f, fd, F, hm, hb⟩ := T.f__law_sizes
  exact Ok3.mk' F hm hb sc__law_sizes (fun ds S Q h => by simp only [sp__law_sizes] at h; first | (obtain ⟨rfl, _⟩ := h; rfl) | (obtain ⟨_, rfl, _⟩ := h; rfl) | (obtain ⟨_, _, rfl, _⟩ := h; rfl) | (obtain ⟨_, _, _, rfl, _⟩ := h; rfl) | (obtain ⟨_, _, _, _, rfl, _⟩ := h; rfl) | (obtain ⟨_, _, _, _, _, rfl, _⟩ := h; rfl) | (obtain ⟨_, _, _, _, _, _, rfl, _⟩ := h; rfl) | (obtain ⟨_, _, _, _, _, _, _, rfl, _⟩ := h; rfl) | (obtain ⟨_, _, _, _, _, _, _, _, rfl, _⟩ := h; rfl) | (obtain ⟨_, _, _, _, _, _, _, _, _, rfl, _⟩ := h; rfl) | (obtain ⟨_, _, _, _, _, _, _, _, _, _, rfl, _⟩ := h; rfl) | exact h.2) (fun cdv A outer s H E hr => dv__law_sizes T hr) rd__law_sizes
def sp__law_full : Sp3 := fun ds S Q => ∃ (n k m : Nat) (b : Int), ds = [.loc n, .p (.int (k : Nat)), .p (.int ((m + 1 : Nat) : Int))] ∧ 0 < k ∧ k ≤ 600 ∧ m < 40 ∧ k ^ (m + 1) ≤ 600 ∧ HdB S n b ∧ b ≤ 1000000 ∧ ∀ (r : List Nat) S', RndN k (k ^ m) r → HdTo n S S' → HdB S' n (b + 600) → Q (.p (tupI (rowN r))) S'
def t__law_full_b1 : TS3 := tSeq3 (tSet3 4 (tOp3 rIx3 (tOp3 rIx3 (tVar3 6) (tUn3 rNeg3 (tC3 (.int 1)))) (tC3 (.int 0)))) (tIfS3 (tTest3 (tOp3 rNeL3 (tOp3 rIxL3 (tVar3 5) (tVar3 4)) (tPure (tLst3 (tNil3))))) (tSeq3 (tSet3 8 (tPopAt3 (tOp3 rIxL3 (tVar3 5) (tVar3 4)) (tCB3 sp__law_take (tCons3 (tVar3 0) (tCons3 (tCB3 (rLenA3) (tCons3 (tOp3 rIxL3 (tVar3 5) (tVar3 4)) (tNil3))) (tNil3)))))) (tDrop3 (tApp3 (tVar3 6) (tTup3 (tCons3 (tOp3 rMod3 (tOp3 rAdd3 (tOp3 rMulT3 (tVar3 4) (tVar3 1)) (tVar3 8)) (tVar3 3)) (tCons3 (tVar3 8) (tNil3))))))) (tDrop3 (tApp3 (tVar3 7) (tOp3 rIx3 (tPop3 (tVar3 6)) (tC3 (.int 1))))))
def t__law_full : TS3 := tSeq3 (tSet3 3 (tCB3 sp__law_power (tCons3 (tVar3 1) (tCons3 (tOp3 rSub3 (tVar3 2) (tC3 (.int 1))) (tNil3))))) (tSeq3 (tSetLL3 5 (tRng1 (tCons3 (tVar3 3) (tNil3))) (.nm 4) (tYes3) (tOwn (tLstRgA (tVar3 1))) [4]) (tSeq3 (tPr3 6 7 (tCons3 (tOwn (tLst3 (tCons3 (tTup3 (tCons3 (tC3 (.int 0)) (tCons3 (tC3 .none) (tNil3)))) (tNil3)))) (tCons3 (tOwn (tLst3 (tNil3))) (tNil3)))) (tSeq3 (tWhile3 (tTest3 (tOp3 rNeL3 (tVar3 6) (tPure (tLst3 (tNil3))))) (t__law_full_b1)) (tRet3 (tCB3 (rTupOf3) (tCons3 (tRevE3 (tVar3 7)) (tNil3)))))))
theorem dv__law_full (T : Txt K mg base) {f : Addr} {cdv : Value} {A : Around} {outer : List Env} {s : Shared} {H : Hp} {E : XK} (hr : Room 1 (A.deeper (envOfC "_law_full" (defScope s__law_full) s.heap.objs.size f cdv))) : QSs (cxOf CX0 P w K mg base nm__law_full "_law_full" (defScope s__law_full) f cdv A outer s H E).nox (defBody s__law_full) t__law_full :=
  qss_cons (qs_set (i := 3) sc__law_full.nd rfl (by first | exact .inl rfl | exact .inr rfl) (qe_call (ok__law_power T) (hr.mono (by decide)) (by rfl) (qa_cons (qv 1) (qa_cons (qe_op oq_sub (qv 2) (qe_int)) (qa_nil))))) (qss_cons (qs_setLL (i := 5) (own := [("_law_end", 4)]) rfl sc__law_full.nd rfl rfl (sw_true rfl rfl rfl (by decide +kernel)) (qi_range1 (by rfl) T.b_range (qa_cons (qv 3) (qa_nil))) (blkOk_by (own := [("_law_end", 4)]) (N := nm__law_full) (sc := defScope s__law_full) (by decide +kernel)) (fun _ _ _ _ _ => qb_nm (i := 4) sc__law_full.nd rfl (by first | exact .inl rfl | exact .inr rfl)) (fun _ _ _ _ _ => qts_nil) (fun _ _ _ _ _ => qn_own (qn_listRgA rfl (by rfl) T.b_list (by rfl) T.b_range (qv 1)))) (qss_cons (qs_par (i := 6) (j := 7) rfl sc__law_full.nd rfl rfl (by decide) rfl rfl (qa_cons (qn_own (qn_lst (qa_cons (qe_tup (qa_cons (qe_int) (qa_cons (qe_non) (qa_nil)))) (qa_nil)))) (qa_cons (qn_own (qn_lst (qa_nil))) (qa_nil))) (by rfl)) (qss_cons (qs_while PassesOwn.never (qt_cmp (oq_neL hr.units) (qv 6) (qn_pure (qn_lst (qa_nil)))) (qss_cons (qs_set (i := 4) sc__law_full.nd rfl (by first | exact .inl rfl | exact .inr rfl) (qe_ix iq_seq (qe_ix iq_seq (qv 6) (qe_un uq_neg (qe_int))) (qe_int))) (qss_one (qs_if (qt_cmp (oq_neL hr.units) (qe_ix iq_lls (qv 5) (qv 4)) (qn_pure (qn_lst (qa_nil)))) (qss_cons (qs_set (i := 8) sc__law_full.nd rfl (by first | exact .inl rfl | exact .inr rfl) (qe_popAt (qe_ix iq_lls (qv 5) (qv 4)) (qe_call (ok__law_take T) (hr.mono (by decide)) (by rfl) (qa_cons (qv 0) (qa_cons (qe_cb cq_lenA (by rfl) T.b_len (by decide +kernel) (qa_cons (qe_ix iq_lls (qv 5) (qv 4)) (qa_nil))) (qa_nil)))))) (qss_one (qs_expr (qe_append (qv 6) (qe_tup (qa_cons (qe_op oq_mod (qe_op oq_add (qe_op oq_mulT (qv 4) (qv 1)) (qv 8)) (qv 3)) (qa_cons (qv 8) (qa_nil)))))))) (qss_one (qs_expr (qe_append (qv 7) (qe_ix iq_seq (qe_pop (qv 6)) (qe_int))))))))) (qss_one (qs_ret (qe_ty cq_tuple (by rfl) T.b_tuple (by decide +kernel) (qa_cons (qe_revE (qv 7)) (qa_nil))))))))
theorem rd__law_full : ∀ ds S Q, sp__law_full ds S Q → t__law_full { nx := fun _ S' => Fin3 S Q (.p .none) S', rt := Fin3 S Q } (env0 9 ds) S := by
  rintro _ S Q ⟨n, k, m, b, rfl, k0, k1, hm, hp, hd, hb, q⟩
  have hn := hd.hd.lt
  have hpk : k ^ m * k = k ^ (m + 1) := (Nat.pow_succ ..).symm
  have e0 : 0 < k ^ m := Nat.pow_pos k0
  unfold t__law_full sp__law_power
  walk_at "rd"
  refine ⟨(k : Nat), m, by rw [show ((m + 1 : Nat) : Int) - 1 = (m : Nat) by omega], by omega, by omega, by omega, ?_⟩
  rw [← Int.natCast_pow, Int.toNat_natCast]
  generalize hE : k ^ m = E at *
  have hE6 : E ≤ 600 := Nat.le_trans (Nat.le_mul_of_pos_right E k0) (by omega)
  have hEk : E * k ≤ 600 := by omega
  refine ⟨⟨by omega, by omega⟩, fun i acc s => i ≤ E ∧ acc = (List.range i).map (fun j => D.loc (S.length + j)) ∧ s = S ++ (List.replicate i (List.range k)).map LD, ⟨Nat.zero_le _, rfl, by simp⟩, fun _ _ _ _ => trivial, ?_, ?_⟩
  · rintro i d acc s hx ⟨hi, rfl, rfl⟩
    obtain ⟨hi, rfl⟩ := rng_get hx
    refine ⟨⟨by omega, by omega⟩, by simp, by simp, by omega, ?_, ?_⟩
    · rw [List.range_succ, List.map_append, List.length_append, List.length_map, List.length_replicate]
      rfl
    · rw [List.replicate_succ', List.map_append, ← List.append_assoc]
      congr 2
      show some (O3.lst (rng 0 ((k : Int) - 0).toNat)) = some (.lst (natD (List.range k)))
      rw [rng_nats]
  · rintro acc s ⟨hi, rfl, rfl⟩
    rw [rng_len]
    have hst : ∀ x y z : Option O3, S ++ (List.replicate E (List.range k)).map LD ++ [x] ++ [y] ++ [z] = S ++ ((List.replicate E (List.range k)).map LD ++ [x, y, z]) := fun x y z => by simp
    have hl0 : (S ++ (List.replicate E (List.range k)).map LD).length = S.length + E := by simp
    have hl1 : ∀ x : Option O3, (S ++ (List.replicate E (List.range k)).map LD ++ [x]).length = S.length + E + 1 := fun x => by simp [Nat.add_assoc]
    have hl2 : ∀ x y : Option O3, (S ++ (List.replicate E (List.range k)).map LD ++ [x] ++ [y]).length = S.length + E + 2 := fun x y => by simp [Nat.add_assoc]
    simp only [hl0, hl1, hl2, hst]
    refine ⟨fun M e s => ∃ (z4 z8 : Option D) (S' : S3), HdTo n S S' ∧ e = [some (.loc n), some (.p (.int (k : Nat))), some (.p (.int ((m + 1 : Nat) : Int))), some (.p (.int (E : Nat))), z4, some (.loc (S.length + E)), some (.loc (S.length + E + 1)), some (.loc (S.length + E + 2)), z8] ∧
      ((∃ (L : List (List Nat)) (ps os : List Nat) (a : Nat), Eul k E L ps os a ∧ HdB S' n (b + ((ps.length + os.length : Nat) : Int)) ∧ M = 2 * (E * k - (ps.length + os.length)) + ps.length + 1 ∧ s = stE S' E L (pileD k E ps) (natD os.reverse)) ∨
       (∃ (L : List (List Nat)) (r : List Nat), L.length = E ∧ RndN k E r ∧ HdB S' n (b + 600) ∧ s = stE S' E L [] (natD r.reverse ++ [.none]))), ?_, ?_⟩
    · exact ⟨_, none, none, S, HdTo.refl hd.hd, rfl, .inl ⟨List.replicate E (List.range k), [], [], 0, Eul.start k0 e0, by simpa using hd, rfl, rfl⟩⟩
    rintro M e s ⟨z4, z8, S', hto, rfl, hs⟩
    have hB := hto.len
    have hn' : n < S'.length := by omega
    walk_at "rd"
    rcases hs with ⟨L, ps, os, a, hE', hdb, rfl, rfl⟩ | ⟨L, r, hL, hr, hdb, rfl⟩
    · have hL := hE'.len
      have hle := hE'.le
      obtain ⟨l, hl⟩ := hE'.top
      obtain ⟨z, hz⟩ := pileD_top k E ps
      have ht := goN_lt (k := k) e0 e0 ps
      have h1 : ((S.length + E : Nat)) = S'.length + E := by omega
      simp only [stE_p hB hL]
      refine ⟨⟨shaped_pileD k E ps, by decide +kernel⟩, ?_⟩
      rw [if_pos (eqv_pileD k E ps)]
      unfold t__law_full_b1 sp__law_take
      walk_at "rd"
      simp only [stE_p hB hL, atI_neg1, hz]
      walk_at "rd"
      simp only [stE_l hB hL]
      simp only [List.length_map, List.length_range, ixN_ltN ht, atI_locs ht]
      have hat := fun q' => stE_at (S := S') (E := E) (L := L) (p := pileD k E ps) (q := q') hB hl
      simp only [hat]
      refine ⟨⟨shaped_natD l, by decide +kernel⟩, ?_⟩
      rw [eqv_natD]
      by_cases hln : l = []
      · subst hln
        rw [if_neg (by simp)]
        simp only [stE_q hB hL, stE_setp hB hL]
        rcases List.eq_nil_or_concat ps with rfl | ⟨ps0, c, rfl⟩
        · have hz0 : (pileD k E []).getLast? = some (.tuple [.int 0, .none]) := rfl
          rw [hz0] at hz
          cases hz
          walk_at "rd"
          simp only [stE_setq hB hL]
          subst hE
          refine ⟨by rw [natD_len, List.length_reverse]; simp at hle; omega, wk_self ⟨0, by omega, _, z8, S', hto, rfl, .inr ⟨L, os, hL, hE'.over hl, hdb.le (by simp at hle ⊢; omega), rfl⟩⟩⟩
        · rw [List.concat_eq_append] at *
          rw [pileD_snoc, List.getLast?_concat, goN_snoc] at hz
          simp only [Option.some.injEq, PyData.tuple.injEq, List.cons.injEq, and_true, true_and] at hz
          subst hz
          walk_at "rd"
          simp only [stE_setq hB hL]
          have hp' := hE'.pop hl
          rw [List.length_append, List.length_singleton] at hle
          refine ⟨by rw [natD_len, List.length_reverse]; omega, wk_self ⟨_, ?_, _, z8, S', hto, rfl, .inl ⟨L, ps0, c :: os, _, hp', hdb.le (by simp; omega), rfl, ?_⟩⟩⟩
          · simp only [List.length_append, List.length_cons, List.length_nil]
            omega
          · rw [pileD_snoc, List.dropLast_concat, List.reverse_cons]
            unfold natD
            rw [List.map_append]
            rfl
      · rw [if_pos (by simp [hln])]
        have hlpos : 0 < l.length := List.length_pos_iff.mpr hln
        have hlk : l.length ≤ 600 := Nat.le_trans (nodup_le (hE'.sub _ _ hl).1 (hE'.sub _ _ hl).2) k1
        refine ⟨n, _, _, by rw [natD_len], by omega, by omega, stE_hdb hdb, by omega, fun d s3 d0 d1 hto3 hdb3 => ?_⟩
        obtain ⟨i, rfl⟩ := Int.eq_ofNat_of_zero_le d0
        have hi : i < l.length := by omega
        obtain ⟨S3, hto4, rfl⟩ := stE_hd hn' hto3
        have hB3 : S3.length = S.length := by rw [hto4.len]; exact hB
        have hn3 : n < S3.length := by omega
        have hdb4 := stE_unhdb hn3 hdb3
        have hat3 := fun q' => stE_at (S := S3) (E := E) (L := L) (p := pileD k E ps) (q := q') hB3 hl
        have hget : (natD l)[i]? = some (.int (l[i] : Nat)) := by
          unfold natD
          rw [List.getElem?_map, List.getElem?_eq_getElem hi]
          rfl
        simp only [hat3, natD_len, ixN_ltN hi, hget, natD_er]
        have hv : goN k E 0 ps < L.length := by rw [hL]; exact ht
        have hL' : (L.set (goN k E 0 ps) (l.eraseIdx i)).length = E := by rw [List.length_set]; exact hL
        simp only [stE_setl hB3 hv]
        walk_at "rd"
        simp only [stE_p hB3 hL', stE_setp hB3 hL', pileD_len]
        have hpush := hE'.push hl hi
        have hle2 := hpush.le
        rw [List.length_append, List.length_singleton] at hle2
        have hmod : ((goN k E 0 ps : Nat) : Int) * (k : Int) + (l[i] : Nat) = ((goN k E 0 ps * k + l[i] : Nat) : Int) := by rw [Int.natCast_add, Int.natCast_mul]
        refine ⟨.inr (.inl (by omega)), by omega, by omega, wk_self ⟨_, ?_, _, _, S3, hto.trans hto4, rfl, .inl ⟨_, ps ++ [l[i]], os, a, hpush, hdb4.le (by rw [List.length_append, List.length_singleton]; omega), rfl, ?_⟩⟩⟩
        · rw [List.length_append, List.length_singleton]
          omega
        · rw [pileD_snoc, hmod, ← Int.natCast_emod]
          rfl
    · simp only [stE_p hB hL]
      refine ⟨⟨by decide +kernel, by decide +kernel⟩, ?_⟩
      rw [if_neg (by simp [PyData.eqv, PyData.eqvAll])]
      walk_at "rd"
      simp only [stE_q hB hL]
      have e : (natD r.reverse ++ [PyData.none]).dropLast.reverse = (rowN r).map PyData.int := by
        rw [List.dropLast_concat, ← natD_row]
        unfold natD
        rw [← List.map_reverse, List.reverse_reverse]
      rw [e]
      exact stE_fin hto (q r S' hr hto hdb)
theorem ok__law_full (T : Txt K mg base) : Ok3 P w K mg base 2 "_law_full" sp__law_full := by
  obtain ⟨f, fd, F, hm, hb⟩ := T.f__law_full
  exact Ok3.mk' F hm hb sc__law_full (fun ds S Q h => by simp only [sp__law_full] at h; first | (obtain ⟨rfl, _⟩ := h; rfl) | (obtain ⟨_, rfl, _⟩ := h; rfl) | (obtain ⟨_, _, rfl, _⟩ := h; rfl) | (obtain ⟨_, _, _, rfl, _⟩ := h; rfl) | (obtain ⟨_, _, _, _, rfl, _⟩ := h; rfl) | (obtain ⟨_, _, _, _, _, rfl, _⟩ := h; rfl) | (obtain ⟨_, _, _, _, _, _, rfl, _⟩ := h; rfl) | (obtain ⟨_, _, _, _, _, _, _, rfl, _⟩ := h; rfl) | (obtain ⟨_, _, _, _, _, _, _, _, rfl, _⟩ := h; rfl) | (obtain ⟨_, _, _, _, _, _, _, _, _, rfl, _⟩ := h; rfl) | (obtain ⟨_, _, _, _, _, _, _, _, _, _, rfl, _⟩ := h; rfl) | exact h.2) (fun cdv A outer s H E hr => dv__law_full T hr) rd__law_full
def sp__law_is_full : Sp3 := fun ds S Q => ∃ (r : List Int) (k n : Nat), ds = [.p (tupI r), .p (.int (k : Nat)), .p (.int (n : Nat))] ∧ 0 < r.length ∧ r.length ≤ 600 ∧ k ≤ 1000 ∧ 0 < n ∧ n ≤ 1000 ∧ Q (.p (.bool (fulR r k n))) S
def t__law_is_full : TS3 := tSeq3 (tIfS3 (tOr3 (tTest3 (tOp3 rNeS3 (tCB3 (rLenA3) (tCons3 (tVar3 0) (tNil3))) (tCB3 sp__law_power (tCons3 (tVar3 1) (tCons3 (tVar3 2) (tNil3)))))) (tTest3 (tOp3 rNeS3 (tPure (tLc3 (tSeqI3 (tVar3 0)) (.nm 4) (tTest3 (tOp3 rGe3 (tVar3 4) (tVar3 1))) (tVar3 4) [4])) (tPure (tLst3 (tNil3)))))) (tRet3 (tC3 (.bool false))) (tNext3)) (tSeq3 (tSet3 3 (tOp3 rMulT3 (tVar3 0) (tOp3 rAdd3 (tC3 (.int 2)) (tOp3 rDiv3 (tVar3 2) (tCB3 (rLenA3) (tCons3 (tVar3 0) (tNil3))))))) (tRet3 (tOp3 rEqS3 (tLenSetG3 (tPure (tLc3 (tRng1 (tCons3 (tCB3 (rLenA3) (tCons3 (tVar3 0) (tNil3))) (tNil3))) (.nm 5) (tYes3) (tSl3 (tVar3 3) (tPart3 (tVar3 5)) (tPart3 (tOp3 rAdd3 (tVar3 5) (tVar3 2)))) [5]))) (tCB3 (rLenA3) (tCons3 (tVar3 0) (tNil3))))))
theorem dv__law_is_full (T : Txt K mg base) {f : Addr} {cdv : Value} {A : Around} {outer : List Env} {s : Shared} {H : Hp} {E : XK} (hr : Room 1 (A.deeper (envOfC "_law_is_full" (defScope s__law_is_full) s.heap.objs.size f cdv))) : QSs (cxOf CX0 P w K mg base nm__law_is_full "_law_is_full" (defScope s__law_is_full) f cdv A outer s H E).nox (defBody s__law_is_full) t__law_is_full :=
  qss_cons (qs_if (qt_w (qw_or (qt_cmp (oq_neS hr.units) (qe_cb cq_lenA (by rfl) T.b_len (by decide +kernel) (qa_cons (qv 0) (qa_nil))) (qe_call (ok__law_power T) (hr.mono (by decide)) (by rfl) (qa_cons (qv 1) (qa_cons (qv 2) (qa_nil))))) (qw_or1 (qt_cmp (oq_neS hr.units) (qn_pure (qn_lc (own := [("_law_number", 4)]) rfl sc__law_is_full.nd (qi_seq (qv 0)) (blkOk_by (own := [("_law_number", 4)]) (N := nm__law_is_full) (sc := defScope s__law_is_full) (by decide +kernel)) (fun _ _ _ _ _ => qb_nm (i := 4) sc__law_is_full.nd rfl (by first | exact .inl rfl | exact .inr rfl)) (fun _ _ _ _ _ => qts_one (qt_cmp oq_ge (qv 4) (qv 1))) (fun _ _ _ _ _ => qv 4))) (qn_pure (qn_lst (qa_nil))))))) (qss_one (qs_ret (qe_bl))) (qss_nil)) (qss_cons (qs_set (i := 3) sc__law_is_full.nd rfl (by first | exact .inl rfl | exact .inr rfl) (qe_op oq_mulT (qv 0) (qe_op oq_add (qe_int) (qe_op oq_div (qv 2) (qe_cb cq_lenA (by rfl) T.b_len (by decide +kernel) (qa_cons (qv 0) (qa_nil))))))) (qss_one (qs_ret (qe_cmp (oq_eqS hr.units) (qe_lenSetG rfl hr.units (by rfl) T.b_len (by rfl) T.b_set (qn_pure (qn_lc (own := [("_law_at", 5)]) rfl sc__law_is_full.nd (qi_range1 (by rfl) T.b_range (qa_cons (qe_cb cq_lenA (by rfl) T.b_len (by decide +kernel) (qa_cons (qv 0) (qa_nil))) (qa_nil))) (blkOk_by (own := [("_law_at", 5)]) (N := nm__law_is_full) (sc := defScope s__law_is_full) (by decide +kernel)) (fun _ _ _ _ _ => qb_nm (i := 5) sc__law_is_full.nd rfl (by first | exact .inl rfl | exact .inr rfl)) (fun _ _ _ _ _ => qts_nil) (fun _ _ _ _ _ => qe_slice (qv 3) (qo_some (qv 5)) (qo_some (qe_op oq_add (qv 5) (qv 2))))))) (qe_cb cq_lenA (by rfl) T.b_len (by decide +kernel) (qa_cons (qv 0) (qa_nil)))))))
theorem rd__law_is_full : ∀ ds S Q, sp__law_is_full ds S Q → t__law_is_full { nx := fun _ S' => Fin3 S Q (.p .none) S', rt := Fin3 S Q } (env0 6 ds) S := by
  rintro _ S Q ⟨r, k, n, rfl, h0, h1, hk, n0, n1, q⟩
  unfold t__law_is_full sp__law_power
  unfold tupI
  walk_at "rd"
  refine ⟨(k : Nat), n, rfl, by omega, by omega, by omega, ?_⟩
  unfold fulR at q
  rw [← Int.natCast_pow]
  by_cases hl : r.length = k ^ n
  · rw [if_neg (by omega)]
    rw [decide_eq_true hl, Bool.true_and] at q
    refine ⟨fun i acc s => s = S ∧ acc = ((r.take i).filter fun x => decide ((k : Int) ≤ x)).map PyData.int, ⟨rfl, rfl⟩, fun _ _ _ _ => trivial, ?_, ?_⟩
    · rintro i x acc s hx ⟨rfl, rfl⟩
      rw [List.getElem?_map] at hx
      obtain ⟨y, hy, rfl⟩ := Option.map_eq_some_iff.mp hx
      walk_at "rd"
      rw [take_one hy, List.filter_append, List.map_append]
      by_cases hyk : (k : Int) ≤ y
      · rw [if_pos hyk]
        simp [hyk]
      · rw [if_neg hyk]
        simp [hyk]
    · rintro acc s ⟨rfl, rfl⟩
      rw [List.take_length]
      refine ⟨⟨shaped_lints9 _, by decide +kernel⟩, ?_⟩
      by_cases hm : ∀ y ∈ r, y < (k : Int)
      · have hf : r.filter (fun x => decide ((k : Int) ≤ x)) = [] := List.filter_eq_nil_iff.mpr fun x hx => by
          have := hm x hx
          simpa using this
        rw [hf, if_neg (by decide +kernel)]
        rw [decide_eq_true hm, Bool.true_and] at q
        have hR : ((2 : Int) + (n : Int) / (r.length : Int)) = ((2 + n / r.length : Nat) : Int) := by
          rw [Int.natCast_add, Int.natCast_ediv]
          rfl
        have hnr : n / r.length ≤ 1000 := Nat.le_trans (Nat.div_le_self _ _) n1
        have hmul : r.length * (2 + n / r.length) ≤ 600 * 1002 := Nat.mul_le_mul h1 (by omega)
        have hq0 : (n : Int) / (r.length : Int) = ((n / r.length : Nat) : Int) := (Int.natCast_ediv n r.length).symm
        rw [hR, Int.toNat_natCast]
        refine ⟨⟨by omega, .inl (by omega)⟩, ⟨Int.le_trans (by decide) (Int.natCast_nonneg _), by omega, by omega⟩, ⟨by omega, by omega⟩, fun i acc s' => s' = s ∧ acc = (wordsR r n i).map tupI, ⟨rfl, rfl⟩, fun _ _ _ _ => trivial, ?_, ?_⟩
        · rintro i x acc s' hx ⟨rfl, rfl⟩
          obtain ⟨hi, rfl⟩ := rng_get hx
          walk_at "rd"
          have hi' : i < r.length := by omega
          have hm2 : i + n ≤ r.length * (2 + n / r.length) := by
            have h1 := Nat.div_add_mod n r.length
            have h2 := Nat.mod_lt n h0
            rw [Nat.mul_add]
            omega
          have e : PyData.tuple (cut3 (rep3 (r.map PyData.int) ((2 + n / r.length : Nat) : Int)) (some (0 + (i : Int))) (some (0 + (i : Int) + (n : Int)))) = tupI (wdAt r n i) := by
            rw [Int.zero_add, rep3_map, ← Int.natCast_add, cut3_map, cut3_seg, wdAt_seg h0 hm2]
            rfl
          rw [e]
          unfold wordsR
          rw [List.range_succ, List.map_append, List.map_append]
          first | exact ⟨rfl, rfl⟩ | rfl
        · rintro acc s' ⟨rfl, rfl⟩
          rw [rng_len, Int.toNat_natCast]
          walk_at "rd"
          rw [allP_tups]
          have hwl : (wordsR r n r.length).length = r.length := by
            unfold wordsR
            rw [List.length_map, List.length_range]
          refine ⟨by omega, fun L nd hL => ?_⟩
          have hnl := (nodup_len nd hL).2
          rw [hwl] at hnl
          have e : ((L.length : Int) == (r.length : Int)) = decide (wordsR r n r.length).Nodup := by
            rw [Bool.eq_iff_iff, beq_iff_eq, decide_eq_true_iff, ← hnl]
            omega
          rw [e]
          exact fin_p q
      · rw [decide_eq_false hm, Bool.false_and] at q
        have hf : r.filter (fun x => decide ((k : Int) ≤ x)) ≠ [] := fun z => hm fun y hy => by
          have := List.filter_eq_nil_iff.mp z y hy
          simpa using this
        rw [if_pos (eqv_ints_ne hf)]
        exact fin_p q
  · rw [if_pos (by omega)]
    rw [decide_eq_false hl, Bool.false_and] at q
    exact fin_p q
theorem ok__law_is_full (T : Txt K mg base) : Ok3 P w K mg base 2 "_law_is_full" sp__law_is_full := by
  obtain ⟨f, fd, F, hm, hb⟩ := T.f__law_is_full
  exact Ok3.mk' F hm hb sc__law_is_full (fun ds S Q h => by simp only [sp__law_is_full] at h; first | (obtain ⟨rfl, _⟩ := h; rfl) | (obtain ⟨_, rfl, _⟩ := h; rfl) | (obtain ⟨_, _, rfl, _⟩ := h; rfl) | (obtain ⟨_, _, _, rfl, _⟩ := h; rfl) | (obtain ⟨_, _, _, _, rfl, _⟩ := h; rfl) | (obtain ⟨_, _, _, _, _, rfl, _⟩ := h; rfl) | (obtain ⟨_, _, _, _, _, _, rfl, _⟩ := h; rfl) | (obtain ⟨_, _, _, _, _, _, _, rfl, _⟩ := h; rfl) | (obtain ⟨_, _, _, _, _, _, _, _, rfl, _⟩ := h; rfl) | (obtain ⟨_, _, _, _, _, _, _, _, _, rfl, _⟩ := h; rfl) | (obtain ⟨_, _, _, _, _, _, _, _, _, _, rfl, _⟩ := h; rfl) | exact h.2) (fun cdv A outer s H E hr => dv__law_is_full T hr) rd__law_is_full
def sp__law_words : Sp3 := fun ds S Q => ∃ (k l : Nat), ds = [.p (.int (k : Nat)), .p (.int (l : Nat))] ∧ 0 < k ∧ k ≤ 600 ∧ 0 < l ∧ l ≤ 40 ∧ k ^ l ≤ 600 ∧ ∀ (m : Nat) S', S.length ≤ m → S'[m]? = some (some (.lst ((wordsL k l).map tupI))) → S'.take S.length = S → S.length ≤ S'.length → Q (.loc m) S'
def t__law_words_b2 : TS3 := tDrop3 (tExt3 (tVar3 4) (tLc3 (tRng1 (tCons3 (tVar3 0) (tNil3))) (.nm 6) (tYes3) (tOp3 rAdd3 (tVar3 5) (tTup3 (tCons3 (tVar3 6) (tNil3)))) [6]))
def t__law_words_b1 : TS3 := tSeq3 (tSet3 4 (tOwn (tLst3 (tNil3)))) (tSeq3 (tFor3 (tSeqI3 (tVar3 2)) (.nm 5) (t__law_words_b2)) (tSet3 2 (tVar3 4)))
def t__law_words : TS3 := tSeq3 (tSet3 2 (tPure (tLst3 (tCons3 (tTup3 (tNil3)) (tNil3))))) (tSeq3 (tFor3 (tRng1 (tCons3 (tVar3 1) (tNil3))) (.nm 3) (t__law_words_b1)) (tRet3 (tVar3 2)))
theorem dv__law_words (T : Txt K mg base) {f : Addr} {cdv : Value} {A : Around} {outer : List Env} {s : Shared} {H : Hp} {E : XK} (hr : Room 0 (A.deeper (envOfC "_law_words" (defScope s__law_words) s.heap.objs.size f cdv))) : QSs (cxOf CX0 P w K mg base nm__law_words "_law_words" (defScope s__law_words) f cdv A outer s H E).nox (defBody s__law_words) t__law_words :=
  qss_cons (qs_set (i := 2) sc__law_words.nd rfl (by first | exact .inl rfl | exact .inr rfl) (qn_pure (qn_lst (qa_cons (qe_tup (qa_nil)) (qa_nil))))) (qss_cons (qs_for PassesOwn.never rfl (qi_range1 (by rfl) T.b_range (qa_cons (qv 1) (qa_nil))) (qb_nm (i := 3) sc__law_words.nd rfl (by first | exact .inl rfl | exact .inr rfl)) (qss_cons (qs_set (i := 4) sc__law_words.nd rfl (by first | exact .inl rfl | exact .inr rfl) (qn_own (qn_lst (qa_nil)))) (qss_cons (qs_for PassesOwn.never rfl (qi_seq (qv 2)) (qb_nm (i := 5) sc__law_words.nd rfl (by first | exact .inl rfl | exact .inr rfl)) (qss_one (qs_expr (qe_extend (qv 4) (qn_lc (own := [("_law_number", 6)]) rfl sc__law_words.nd (qi_range1 (by rfl) T.b_range (qa_cons (qv 0) (qa_nil))) (blkOk_by (own := [("_law_number", 6)]) (N := nm__law_words) (sc := defScope s__law_words) (by decide +kernel)) (fun _ _ _ _ _ => qb_nm (i := 6) sc__law_words.nd rfl (by first | exact .inl rfl | exact .inr rfl)) (fun _ _ _ _ _ => qts_nil) (fun _ _ _ _ _ => qe_op oq_add (qv 5) (qe_tup (qa_cons (qv 6) (qa_nil))))))))) (qss_one (qs_set (i := 2) sc__law_words.nd rfl (by first | exact .inl rfl | exact .inr rfl) (qv 4)))))) (qss_one (qs_ret (qv 2))))
theorem rd__law_words : ∀ ds S Q, sp__law_words ds S Q → t__law_words { nx := fun _ S' => Fin3 S Q (.p .none) S', rt := Fin3 S Q } (env0 7 ds) S := by
  rintro _ S Q ⟨k, l, rfl, k0, k1, l0, l1, hp, q⟩
  have hpl : ∀ j, j ≤ l → k ^ j ≤ 600 := fun j hj => Nat.le_trans (Nat.pow_le_pow_right k0 hj) hp
  unfold t__law_words
  walk_at "rd"
  refine ⟨by omega, fun t e s => ∃ (d : D) (z3 z4 z5 : Option D), t ≤ l ∧ e = [some (.p (.int (k : Nat))), some (.p (.int (l : Nat))), some d, z3, z4, z5, none] ∧ HasL S.length s d (wordsL k t) ∧ (0 < t → ∃ m, d = .loc m) ∧ s.take S.length = S ∧ S.length ≤ s.length, ⟨_, none, none, none, Nat.zero_le _, rfl, .inl rfl, by simp, List.take_length, Nat.le_refl _⟩, fun _ _ _ _ => trivial, ?_, ?_⟩
  · rintro t d' e s hi ⟨d, z3, z4, z5, _, rfl, hH, _, hS, hSl⟩
    obtain ⟨hi, rfl⟩ := rng_get hi
    have ht : t < l := by omega
    unfold t__law_words_b1
    walk_at "rd"
    have body : ∀ (D : N3) (d z3 : Option L3.D) (i : Nat) (w : List Int) (s1 : S3), (wordsL k t)[i]? = some w → s1[s.length]? = some (some (.lst ((((wordsL k t).take i).flatMap (extW k)).map tupI))) → s1.take s.length = s → s1.length = s.length + 1 →
        (∀ (s2 : S3), s2[s.length]? = some (some (.lst ((((wordsL k t).take (i + 1)).flatMap (extW k)).map tupI))) → s2.take s.length = s → s2.length = s.length + 1 → D.nx [some (.p (.int (k : Nat))), some (.p (.int (l : Nat))), d, z3, some (.loc s.length), some (.p (tupI w)), none] s2) →
        t__law_words_b2 D [some (.p (.int (k : Nat))), some (.p (.int (l : Nat))), d, z3, some (.loc s.length), some (.p (tupI w)), none] s1 := by
      intro D d z3 i w s1 hw g1 g2 g3 hD
      have hwl := wordsL_long k t w (List.mem_of_getElem? hw)
      have hil : i < (wordsL k t).length := (List.getElem?_eq_some_iff.mp hw).1
      rw [wordsL_len] at hil
      have hb1 := hpl t (by omega)
      unfold t__law_words_b2
      walk_at "rd"
      simp only [g1]
      walk_at "rd"
      refine ⟨by omega, fun a acc s2 => s2 = s1 ∧ acc = ((List.range a).map fun (d : Nat) => w ++ [((d : Nat) : Int)]).map tupI, ⟨rfl, rfl⟩, fun _ _ _ _ => trivial, ?_, ?_⟩
      · rintro a d acc s2 ha ⟨rfl, rfl⟩
        obtain ⟨ha, rfl⟩ := rng_get ha
        rw [show tupI w = .tuple (w.map PyData.int) from rfl]
        walk_at "rd"
        refine ⟨by rw [hwl]; omega, ?_⟩
        rw [List.range_succ, List.map_append, List.map_append, Int.zero_add]
        congr 1
        simp [tupI]
      · rintro acc s2 ⟨rfl, rfl⟩
        rw [rng_len, Int.toNat_natCast]
        simp only [g1]
        have hfl : (((wordsL k t).take i).flatMap (extW k)).length ≤ 600 * 600 := by
          rw [flatMap_len_le (extW k) k (fun a => by unfold extW; rw [List.length_map, List.length_range])]
          rw [List.length_take]
          exact Nat.mul_le_mul (by omega) k1
        refine ⟨by simp only [List.length_map, List.length_range]; omega, hD _ ?_ (by rw [take_set_ge']; exact g2) (by rw [List.length_set]; exact g3)⟩
        rw [List.getElem?_set_self (by omega), flatMap_take (extW k) hw, List.map_append]
        rfl
    have inv0 : ∀ (d z3 : Option L3.D), ∃ z5' : Option L3.D, [some (.p (.int (k : Nat))), some (.p (.int (l : Nat))), d, z3, some (.loc s.length), z5, none] = [some (.p (.int (k : Nat))), some (.p (.int (l : Nat))), d, z3, some (.loc s.length), z5', none] ∧ (s ++ [some (O3.lst [])])[s.length]? = some (some (.lst ((((wordsL k t).take 0).flatMap (extW k)).map tupI))) ∧ (s ++ [some (O3.lst [])]).take s.length = s ∧ (s ++ [some (O3.lst [])]).length = s.length + 1 := fun d z3 => ⟨_, rfl, by simp, by simp, by simp⟩
    have done : ∀ (s1 : S3), s1[s.length]? = some (some (.lst ((((wordsL k t).take (wordsL k t).length).flatMap (extW k)).map tupI))) → s1.take s.length = s → s1.length = s.length + 1 → HasL S.length s1 (.loc s.length) (wordsL k (t + 1)) ∧ s1.take S.length = S ∧ S.length ≤ s1.length := fun s1 a1 a2 a3 => by
      rw [List.take_length, ← wordsL_succ] at a1
      refine ⟨.inr ⟨_, rfl, hSl, a1⟩, ?_, by omega⟩
      have e := congrArg (List.take S.length) a2
      rw [List.take_take, Nat.min_eq_left hSl, hS] at e
      exact e
    rcases hH with rfl | ⟨m, rfl, hm, hsm⟩
    · walk_at "rd"
      refine ⟨fun i e s1 => ∃ z5 : Option D, e = [some (.p (.int (k : Nat))), some (.p (.int (l : Nat))), some (.p (.list ((wordsL k t).map tupI))), some (.p (.int (0 + (t : Nat)))), some (.loc s.length), z5, none] ∧ s1[s.length]? = some (some (.lst ((((wordsL k t).take i).flatMap (extW k)).map tupI))) ∧ s1.take s.length = s ∧ s1.length = s.length + 1, inv0 _ _, fun _ _ _ _ => trivial, ?_, ?_⟩
      · rintro i x e s1 hx ⟨z5, rfl, g1, g2, g3⟩
        rw [List.getElem?_map] at hx
        obtain ⟨w, hw, rfl⟩ := Option.map_eq_some_iff.mp hx
        exact body _ _ _ i w s1 hw g1 g2 g3 fun s2 a1 a2 a3 => by dsimp only; exact wk_self ⟨_, rfl, a1, a2, a3⟩
      · rintro e s1 ⟨z5, rfl, g1, g2, g3⟩
        obtain ⟨b1, b2, b3⟩ := done s1 g1 g2 g3
        exact wk_self ⟨_, _, _, _, by omega, rfl, b1, fun _ => ⟨_, rfl⟩, b2, b3⟩
    · have hml := (List.getElem?_eq_some_iff.mp hsm).1
      walk_at "rd"
      refine ⟨(wordsL k t).map tupI, by rw [List.getElem?_append_left hml]; exact hsm, fun i e s1 => ∃ z5 : Option D, e = [some (.p (.int (k : Nat))), some (.p (.int (l : Nat))), some (.loc m), some (.p (.int (0 + (t : Nat)))), some (.loc s.length), z5, none] ∧ s1[s.length]? = some (some (.lst ((((wordsL k t).take i).flatMap (extW k)).map tupI))) ∧ s1.take s.length = s ∧ s1.length = s.length + 1, inv0 _ _, ?_, ?_, ?_⟩
      · rintro i e s1 ⟨z5, rfl, g1, g2, g3⟩
        rw [← List.getElem?_take_of_lt hml, g2]
        exact hsm
      · rintro i x e s1 hx ⟨z5, rfl, g1, g2, g3⟩
        rw [List.getElem?_map] at hx
        obtain ⟨w, hw, rfl⟩ := Option.map_eq_some_iff.mp hx
        exact body _ _ _ i w s1 hw g1 g2 g3 fun s2 a1 a2 a3 => by dsimp only; exact wk_self ⟨_, rfl, a1, a2, a3⟩
      · rintro e s1 ⟨z5, rfl, g1, g2, g3⟩
        rw [List.length_map] at g1
        obtain ⟨b1, b2, b3⟩ := done s1 g1 g2 g3
        exact wk_self ⟨_, _, _, _, by omega, rfl, b1, fun _ => ⟨_, rfl⟩, b2, b3⟩
  · rintro e s ⟨d, z3, z4, z5, _, rfl, hH, hd, hS, hSl⟩
    rw [rng_len, Int.toNat_natCast] at hH hd
    obtain ⟨m, rfl⟩ := hd l0
    rcases hH with h | ⟨m', h, hm, hsm⟩
    · cases h
    · cases h
      walk_at "rd"
      have hml := (List.getElem?_eq_some_iff.mp hsm).1
      exact fin_all hSl hml (q m s hm hsm hS hSl)
theorem ok__law_words (T : Txt K mg base) : Ok3 P w K mg base 1 "_law_words" sp__law_words := by
  obtain ⟨f, fd, F, hm, hb⟩ := T.f__law_words
  exact Ok3.mk' F hm hb sc__law_words (fun ds S Q h => by simp only [sp__law_words] at h; first | (obtain ⟨rfl, _⟩ := h; rfl) | (obtain ⟨_, rfl, _⟩ := h; rfl) | (obtain ⟨_, _, rfl, _⟩ := h; rfl) | (obtain ⟨_, _, _, rfl, _⟩ := h; rfl) | (obtain ⟨_, _, _, _, rfl, _⟩ := h; rfl) | (obtain ⟨_, _, _, _, _, rfl, _⟩ := h; rfl) | (obtain ⟨_, _, _, _, _, _, rfl, _⟩ := h; rfl) | (obtain ⟨_, _, _, _, _, _, _, rfl, _⟩ := h; rfl) | (obtain ⟨_, _, _, _, _, _, _, _, rfl, _⟩ := h; rfl) | (obtain ⟨_, _, _, _, _, _, _, _, _, rfl, _⟩ := h; rfl) | (obtain ⟨_, _, _, _, _, _, _, _, _, _, rfl, _⟩ := h; rfl) | exact h.2) (fun cdv A outer s H E hr => dv__law_words T hr) rd__law_words
def sp__law_put_together : Sp3 := fun ds S Q => ∃ (k n : Nat), ds = [.p (.int (k : Nat)), .p (.int (n : Nat))] ∧ 0 < k ∧ k ≤ 600 ∧ 0 < n ∧ n ≤ 40 ∧ k ^ n ≤ 600 ∧ (isortL (leastB k n)).flatten.length ≤ 600 ∧ Q (.p (tupI (isortL (leastB k n)).flatten)) S
def t__law_put_together_b2 : TS3 := tIfS3 (tTest3 (tCB3 (rAll3) (tCons3 (tPure (tLc3 (tRng2 (tCons3 (tC3 (.int 1)) (tCons3 (tVar3 3) (tNil3)))) (.nm 6) (tYes3) (tOp3 rLtD3 (tVar3 4) (tOp3 rAdd3 (tSl3 (tVar3 4) (tPart3 (tVar3 6)) (tNoPart3)) (tSl3 (tVar3 4) (tNoPart3) (tPart3 (tVar3 6))))) [6])) (tNil3)))) (tDrop3 (tApp3 (tVar3 2) (tVar3 4))) (tNext3)
def t__law_put_together_b1 : TS3 := tFor3 (tSeqI3 (tCB3 sp__law_words (tCons3 (tVar3 0) (tCons3 (tVar3 3) (tNil3))))) (.nm 4) (t__law_put_together_b2)
def t__law_put_together_b3 : TS3 := tSet3 5 (tOp3 rAdd3 (tVar3 5) (tVar3 4))
def t__law_put_together_r2 : TS3 := tSeq3 (tSet3 5 (tTup3 (tNil3))) (tSeq3 (tFor3 (tSeqI3 (tPure (tSortedD3 (tVar3 2)))) (.nm 4) (t__law_put_together_b3)) (tRet3 (tVar3 5)))
def t__law_put_together : TS3 := tSeq3 (tSet3 2 (tOwn (tLst3 (tNil3)))) (tSeq3 (tFor3 (tSeqI3 (tPure (tLc3 (tRng2 (tCons3 (tC3 (.int 1)) (tCons3 (tOp3 rAdd3 (tVar3 1) (tC3 (.int 1))) (tNil3)))) (.nm 3) (tTest3 (tOp3 rEqS3 (tOp3 rMod3 (tVar3 1) (tVar3 3)) (tC3 (.int 0)))) (tVar3 3) [3]))) (.nm 3) (t__law_put_together_b1)) (t__law_put_together_r2))
theorem dv__law_put_together (T : Txt K mg base) {f : Addr} {cdv : Value} {A : Around} {outer : List Env} {s : Shared} {H : Hp} {E : XK} (hr : Room 1 (A.deeper (envOfC "_law_put_together" (defScope s__law_put_together) s.heap.objs.size f cdv))) : QSs (cxOf CX0 P w K mg base nm__law_put_together "_law_put_together" (defScope s__law_put_together) f cdv A outer s H E).nox (defBody s__law_put_together) t__law_put_together :=
  qss_cons (qs_set (i := 2) sc__law_put_together.nd rfl (by first | exact .inl rfl | exact .inr rfl) (qn_own (qn_lst (qa_nil)))) (qss_cons (qs_for PassesOwn.never rfl (qi_seq (qn_pure (qn_lc (own := [("_law_long", 3)]) rfl sc__law_put_together.nd (qi_range2 (by rfl) T.b_range (qa_cons (qe_int) (qa_cons (qe_op oq_add (qv 1) (qe_int)) (qa_nil)))) (blkOk_by (own := [("_law_long", 3)]) (N := nm__law_put_together) (sc := defScope s__law_put_together) (by decide +kernel)) (fun _ _ _ _ _ => qb_nm (i := 3) sc__law_put_together.nd rfl (by first | exact .inl rfl | exact .inr rfl)) (fun _ _ _ _ _ => qts_one (qt_cmp (oq_eqS hr.units) (qe_op oq_mod (qv 1) (qv 3)) (qe_int))) (fun _ _ _ _ _ => qv 3)))) (qb_nm (i := 3) sc__law_put_together.nd rfl (by first | exact .inl rfl | exact .inr rfl)) (qss_one (qs_for PassesOwn.never rfl (qi_seq (qe_call (ok__law_words T) (hr.mono (by decide)) (by rfl) (qa_cons (qv 0) (qa_cons (qv 3) (qa_nil))))) (qb_nm (i := 4) sc__law_put_together.nd rfl (by first | exact .inl rfl | exact .inr rfl)) (qss_one (qs_if (qt_val (qe_cb (cq_all rfl) (by rfl) T.b_all (by decide +kernel) (qa_cons (qn_pure (qn_lc (own := [("_law_at", 6)]) rfl sc__law_put_together.nd (qi_range2 (by rfl) T.b_range (qa_cons (qe_int) (qa_cons (qv 3) (qa_nil)))) (blkOk_by (own := [("_law_at", 6)]) (N := nm__law_put_together) (sc := defScope s__law_put_together) (by decide +kernel)) (fun _ _ _ _ _ => qb_nm (i := 6) sc__law_put_together.nd rfl (by first | exact .inl rfl | exact .inr rfl)) (fun _ _ _ _ _ => qts_nil) (fun _ _ _ _ _ => qe_cmp (oq_ltD hr.units) (qv 4) (qe_op oq_add (qe_slice (qv 4) (qo_some (qv 6)) (qo_none)) (qe_slice (qv 4) (qo_none) (qo_some (qv 6))))))) (qa_nil)))) (qss_one (qs_expr (qe_append (qv 2) (qv 4)))) (qss_nil)))))) (qss_cons (qs_set (i := 5) sc__law_put_together.nd rfl (by first | exact .inl rfl | exact .inr rfl) (qe_tup (qa_nil))) (qss_cons (qs_for PassesOwn.never rfl (qi_seq (qn_pure (qn_sortedD hr.units (by rfl) T.b_sorted (qv 2)))) (qb_nm (i := 4) sc__law_put_together.nd rfl (by first | exact .inl rfl | exact .inr rfl)) (qss_one (qs_set (i := 5) sc__law_put_together.nd rfl (by first | exact .inl rfl | exact .inr rfl) (qe_op oq_add (qv 5) (qv 4))))) (qss_one (qs_ret (qv 5))))))
theorem rd__law_put_together : ∀ ds S Q, sp__law_put_together ds S Q → t__law_put_together { nx := fun _ S' => Fin3 S Q (.p .none) S', rt := Fin3 S Q } (env0 7 ds) S := by
  rintro _ S Q ⟨k, n, rfl, k0, k1, n0, n1, hp, hfl6, q⟩
  have hpl : ∀ j, j ≤ n → k ^ j ≤ 600 := fun j hj => Nat.le_trans (Nat.pow_le_pow_right k0 hj) hp
  unfold t__law_put_together
  walk_at "rd"
  refine ⟨by omega, fun i acc s => s = S ++ [some (.lst [])] ∧ acc = (((List.range i).filter fun i => decide (n % (i + 1) = 0)).map fun i => PyData.int ((i + 1 : Nat) : Int)), ⟨rfl, rfl⟩, fun _ _ _ _ => trivial, ?_, ?_⟩
  · rintro i d acc s hi ⟨rfl, rfl⟩
    obtain ⟨hi, rfl⟩ := rng_get hi
    walk_at "rd"
    refine ⟨by omega, ?_⟩
    have e1 : (1 : Int) + (i : Nat) = ((i + 1 : Nat) : Int) := by omega
    have e2 : (n : Int) % ((i + 1 : Nat) : Int) = ((n % (i + 1) : Nat) : Int) := rfl
    rw [e1, e2, List.range_succ, List.filter_append]
    by_cases hd : n % (i + 1) = 0
    · rw [if_pos (by omega)]
      have : ([i].filter fun i => decide (n % (i + 1) = 0)) = [i] := by simp [hd]
      rw [this, List.map_append]
      rfl
    · rw [if_neg (by omega)]
      have : ([i].filter fun i => decide (n % (i + 1) = 0)) = [] := by simp [hd]
      rw [this, List.append_nil]
  · rintro acc s ⟨rfl, rfl⟩
    rw [rng_len]
    have hn : ((n : Int) + 1 - 1).toNat = n := by omega
    rw [hn]
    generalize hD : (List.range n).filter (fun i => decide (n % (i + 1) = 0)) = Ds
    have hDs : ∀ i ∈ Ds, i < n := fun i hi => by
      rw [← hD] at hi
      exact List.mem_range.mp (List.mem_filter.mp hi).1
    have hleast : leastB k n = Ds.flatMap fun i => (wordsL k (i + 1)).filter lynB := by unfold leastB; rw [hD]
    have hDl : Ds.length ≤ 40 := by
      rw [← hD]
      exact Nat.le_trans (List.length_filter_le _ _) (by rw [List.length_range]; exact n1)
    have hg : ∀ i ∈ Ds, ((wordsL k (i + 1)).filter lynB).length ≤ 600 := fun i hi => by
      have := hDs i hi
      exact Nat.le_trans (List.length_filter_le _ _) (by rw [wordsL_len]; exact hpl _ (by omega))
    have hbase : ∀ i, ((Ds.take i).flatMap fun i => (wordsL k (i + 1)).filter lynB).length ≤ 40 * 600 := fun i => by
      refine Nat.le_trans (flatMap_len_bd _ 600 _ fun a ha => hg a (List.mem_of_mem_take ha)) (Nat.mul_le_mul_right _ ?_)
      rw [List.length_take]
      omega
    refine ⟨fun i e s => ∃ z3 z4 : Option D, e = [some (.p (.int (k : Nat))), some (.p (.int (n : Nat))), some (.loc S.length), z3, z4, none, none] ∧ s[S.length]? = some (some (.lst (((Ds.take i).flatMap fun i => (wordsL k (i + 1)).filter lynB).map tupI))) ∧ s.take S.length = S, ⟨none, none, rfl, by simp, by simp⟩, fun _ _ _ _ => trivial, ?_, ?_⟩
    · rintro i x e s hx ⟨z3, z4, rfl, g1, g2⟩
      rw [List.getElem?_map] at hx
      obtain ⟨c, hc, rfl⟩ := Option.map_eq_some_iff.mp hx
      have hcm := List.mem_of_getElem? hc
      have hcn := hDs c hcm
      have hsl := (List.getElem?_eq_some_iff.mp g1).1
      unfold t__law_put_together_b1 sp__law_words
      walk_at "rd"
      refine ⟨k, c + 1, rfl, k0, k1, by omega, by omega, hpl _ (by omega), fun m s1 hm hsm hs1 hs1l => ?_⟩
      have g1' : s1[S.length]? = some (some (.lst (((Ds.take i).flatMap fun i => (wordsL k (i + 1)).filter lynB).map tupI))) := by
        rw [← List.getElem?_take_of_lt hsl, hs1]
        exact g1
      have g2' : s1.take S.length = S := by
        have e := congrArg (List.take S.length) hs1
        rw [List.take_take, Nat.min_eq_left (by omega), g2] at e
        exact e
      refine ⟨_, hsm, fun u e s2 => ∃ z4 : Option D, e = [some (.p (.int (k : Nat))), some (.p (.int (n : Nat))), some (.loc S.length), some (.p (.int ((c + 1 : Nat) : Int))), z4, none, none] ∧ s2[S.length]? = some (some (.lst ((((Ds.take i).flatMap fun i => (wordsL k (i + 1)).filter lynB) ++ ((wordsL k (c + 1)).take u).filter lynB).map tupI))) ∧ s2[m]? = some (some (.lst ((wordsL k (c + 1)).map tupI))) ∧ s2.take S.length = S, ⟨_, rfl, by simpa using g1', hsm, g2'⟩, ?_, ?_, ?_⟩
      · rintro u e s2 ⟨z4, rfl, f1, f2, f3⟩
        exact f2
      · rintro u x e s2 hx ⟨z4, rfl, f1, f2, f3⟩
        rw [List.getElem?_map] at hx
        obtain ⟨w, hw, rfl⟩ := Option.map_eq_some_iff.mp hx
        have hwl := wordsL_long k _ w (List.mem_of_getElem? hw)
        have hfsl := (List.getElem?_eq_some_iff.mp f1).1
        unfold t__law_put_together_b2
        rw [show tupI w = .tuple (w.map PyData.int) from rfl]
        walk_at "rd"
        refine ⟨by omega, fun a acc s3 => s3 = s2 ∧ acc = ((List.range a).map fun i => lexI w (w.drop (i + 1) ++ w.take (i + 1))).map PyData.bool, ⟨rfl, rfl⟩, fun _ _ _ _ => trivial, ?_, ?_⟩
        · rintro a d acc s3 ha ⟨rfl, rfl⟩
          obtain ⟨ha, rfl⟩ := rng_get ha
          have e1 : (1 : Int) + (a : Nat) = ((a + 1 : Nat) : Int) := by omega
          walk_at "rd"
          rw [e1]
          simp only [cut3_to, cut3_from]
          have er : PyData.tuple ((w.map PyData.int).drop (a + 1) ++ (w.map PyData.int).take (a + 1)) = tupI (w.drop (a + 1) ++ w.take (a + 1)) := by
            unfold tupI
            rw [List.map_append, List.map_drop, List.map_take]
          rw [er]
          have el := dataLt_tupI w (w.drop (a + 1) ++ w.take (a + 1))
          have eo := ltOk_rows w (w.drop (a + 1) ++ w.take (a + 1))
          rw [show tupI w = .tuple (w.map PyData.int) from rfl] at el eo
          rw [el]
          refine ⟨by simp; omega, eo, ?_⟩
          rw [List.range_succ, List.map_append, List.map_append]
          rfl
        · rintro acc s3 ⟨rfl, rfl⟩
          rw [rng_len, allP_bls]
          have hcl : (((c + 1 : Nat) : Int) - 1).toNat = w.length - 1 := by omega
          have hall : (((List.range (w.length - 1)).map fun i => lexI w (w.drop (i + 1) ++ w.take (i + 1))).all id) = lynB w := by
            unfold lynB
            rw [List.all_map]
            rfl
          rw [hcl]
          walk_at "rd"
          rw [hall]
          have hfl : ((((Ds.take i).flatMap fun i => (wordsL k (i + 1)).filter lynB) ++ ((wordsL k (c + 1)).take u).filter lynB)).length ≤ 40 * 600 + 600 := by
            rw [List.length_append]
            have a1 := hbase i
            have a2 : (((wordsL k (c + 1)).take u).filter lynB).length ≤ 600 := by
              refine Nat.le_trans (List.length_filter_le _ _) ?_
              rw [List.length_take, wordsL_len]
              exact Nat.le_trans (Nat.min_le_right _ _) (hpl _ (by omega))
            omega
          rw [take_one hw, List.filter_append]
          cases hly : lynB w with
          | true =>
            walk_at "rd"
            simp only [f1]
            walk_at "rd"
            refine ⟨by rw [List.length_append] at hfl; simp only [List.length_append]; omega, wk_self ⟨_, rfl, ?_, ?_, ?_⟩⟩
            · rw [List.getElem?_set_self hfsl]
              have : [w].filter lynB = [w] := by simp [hly]
              rw [this, ← List.append_assoc, List.map_append (l₂ := [w])]
              rfl
            · rw [List.getElem?_set_ne (by omega)]
              exact f2
            · rw [take_set_ge']
              exact f3
          | false =>
            walk_at "rd"
            have : [w].filter lynB = [] := by simp [hly]
            rw [this, List.append_nil]
            exact wk_self ⟨_, rfl, f1, f2, f3⟩
      · rintro e s2 ⟨z4, rfl, f1, f2, f3⟩
        rw [List.length_map, List.take_length] at f1
        refine wk_self ⟨_, _, rfl, ?_, f3⟩
        rw [flatMap_take _ hc]
        exact f1
    · rintro e s ⟨z3, z4, rfl, g1, g2⟩
      rw [List.length_map, List.take_length, ← hleast] at g1
      unfold t__law_put_together_r2
      walk_at "rd"
      simp only [g1]
      refine ⟨⟨alike_any _, sortable_rows _ fun w hw z => ?_, depth_rows _⟩, ?_⟩
      · rw [hleast, List.mem_flatMap] at hw
        obtain ⟨c, _, hw⟩ := hw
        have := wordsL_long k _ w (List.mem_filter.mp hw).1
        rw [z] at this
        cases this
      · rw [sortD_isort]
        have hlen : ∀ i, (((isortL (leastB k n)).take i).flatten).length ≤ 600 := fun i => by
          have e := congrArg (fun l : List (List Int) => l.flatten.length) (List.take_append_drop i (isortL (leastB k n)))
          simp only [List.flatten_append, List.length_append] at e
          omega
        generalize isortL (leastB k n) = I at *
        refine ⟨fun i e s' => ∃ z3 z4 : Option D, s' = s ∧ e = [some (.p (.int (k : Nat))), some (.p (.int (n : Nat))), some (.loc S.length), z3, z4, some (.p (tupI (I.take i).flatten)), none], ⟨_, _, rfl, rfl⟩, fun _ _ _ _ => trivial, ?_, ?_⟩
        · rintro i x e s' hx ⟨z3, z4, rfl, rfl⟩
          rw [List.getElem?_map] at hx
          obtain ⟨w, hw, rfl⟩ := Option.map_eq_some_iff.mp hx
          unfold t__law_put_together_b3
          rw [show tupI w = .tuple (w.map PyData.int) from rfl, show tupI (I.take i).flatten = .tuple ((I.take i).flatten.map PyData.int) from rfl]
          walk_at "rd"
          have h1 := hlen (i + 1)
          rw [take_one hw, List.flatten_append, List.length_append, List.flatten_singleton] at h1
          refine ⟨by first | omega | (simp only [List.length_map]; omega), wk_self ⟨z3, some (.p (tupI w)), rfl, ?_⟩⟩
          rw [take_one hw, List.flatten_append, List.flatten_singleton]
          unfold tupI
          rw [List.map_append]
        · rintro e s' ⟨z3, z4, rfl, rfl⟩
          rw [List.length_map, List.take_length]
          walk_at "rd"
          exact fin_of g2 q
theorem ok__law_put_together (T : Txt K mg base) : Ok3 P w K mg base 2 "_law_put_together" sp__law_put_together := by
  obtain ⟨f, fd, F, hm, hb⟩ := T.f__law_put_together
  exact Ok3.mk' F hm hb sc__law_put_together (fun ds S Q h => by simp only [sp__law_put_together] at h; first | (obtain ⟨rfl, _⟩ := h; rfl) | (obtain ⟨_, rfl, _⟩ := h; rfl) | (obtain ⟨_, _, rfl, _⟩ := h; rfl) | (obtain ⟨_, _, _, rfl, _⟩ := h; rfl) | (obtain ⟨_, _, _, _, rfl, _⟩ := h; rfl) | (obtain ⟨_, _, _, _, _, rfl, _⟩ := h; rfl) | (obtain ⟨_, _, _, _, _, _, rfl, _⟩ := h; rfl) | (obtain ⟨_, _, _, _, _, _, _, rfl, _⟩ := h; rfl) | (obtain ⟨_, _, _, _, _, _, _, _, rfl, _⟩ := h; rfl) | (obtain ⟨_, _, _, _, _, _, _, _, _, rfl, _⟩ := h; rfl) | (obtain ⟨_, _, _, _, _, _, _, _, _, _, rfl, _⟩ := h; rfl) | exact h.2) (fun cdv A outer s H E hr => dv__law_put_together T hr) rd__law_put_together
def sp__law_least_of_all : Sp3 := fun ds S Q => ∃ (k n : Nat) (L : List Nat), ds = [.p (.int (k : Nat)), .p (.int (n : Nat))] ∧ 0 < k ∧ 1 < n ∧ n ≤ 40 ∧ k ^ n < 10 ∧ FulW k n L ∧ (∀ s, FulW k n s → lexI (rowN s) (rowN L) = false) ∧ Q (.p (tupI (rowN L))) S
def t__law_least_of_all_b1_r1 : TS3 := tIfS3 (tTest3 (tOp3 rEqS3 (tCB3 (rLenA3) (tCons3 (tVar3 4) (tNil3))) (tCB3 sp__law_power (tCons3 (tVar3 0) (tCons3 (tVar3 1) (tNil3)))))) (tDrop3 (tExt3 (tVar3 3) (tSlN3 (tPure (tLst3 (tCons3 (tCB3 (rTupOf3) (tCons3 (tVar3 4) (tNil3))) (tNil3)))) (tNoPart3) (tPart3 (tCB3 (rIntOf3) (tCons3 (tCB3 sp__law_is_full (tCons3 (tCB3 (rTupOf3) (tCons3 (tVar3 4) (tNil3))) (tCons3 (tVar3 0) (tCons3 (tVar3 1) (tNil3))))) (tNil3))))))) (tSeq3 (tSet3 5 (tPure (tLc3 (tRng1 (tCons3 (tOp3 rSub3 (tCB3 (rLenA3) (tCons3 (tVar3 4) (tNil3))) (tVar3 1)) (tNil3))) (.nm 7) (tYes3) (tSl3 (tVar3 4) (tPart3 (tVar3 7)) (tPart3 (tOp3 rAdd3 (tVar3 7) (tVar3 1)))) [7]))) (tIfS3 (tTest3 (tOp3 (rInA3 true) (tSl3 (tVar3 4) (tPart3 (tOp3 rSub3 (tCB3 (rLenA3) (tCons3 (tVar3 4) (tNil3))) (tVar3 1))) (tNoPart3)) (tVar3 5))) (tDrop3 (tExt3 (tVar3 2) (tLc3 (tRng1 (tCons3 (tVar3 0) (tNil3))) (.nm 8) (tYes3) (tOp3 rAdd3 (tVar3 4) (tPure (tLst3 (tCons3 (tVar3 8) (tNil3))))) [8]))) (tNext3)))
def t__law_least_of_all_b1 : TS3 := tSeq3 (tSet3 4 (tPop3 (tVar3 2))) (t__law_least_of_all_b1_r1)
def t__law_least_of_all_r1 : TS3 := tSeq3 (tWhile3 (tTest3 (tOp3 rNeL3 (tVar3 2) (tPure (tLst3 (tNil3))))) (t__law_least_of_all_b1)) (tRet3 (tCB3 (rMinD3) (tCons3 (tVar3 3) (tNil3))))
def t__law_least_of_all : TS3 := tSeq3 (tPr3 2 3 (tCons3 (tOwn (tLc3 (tSeqI3 (tCB3 sp__law_words (tCons3 (tVar3 0) (tCons3 (tCB3 (rInt2 (fun i j => if j < i then j else i)) (tCons3 (tVar3 1) (tCons3 (tCB3 sp__law_power (tCons3 (tVar3 0) (tCons3 (tVar3 1) (tNil3)))) (tNil3)))) (tNil3))))) (.nm 6) (tYes3) (tPure (tLstOf3 (tCons3 (tVar3 6) (tNil3)))) [6])) (tCons3 (tOwn (tLst3 (tNil3))) (tNil3)))) (t__law_least_of_all_r1)
theorem dv__law_least_of_all (T : Txt K mg base) {f : Addr} {cdv : Value} {A : Around} {outer : List Env} {s : Shared} {H : Hp} {E : XK} (hr : Room 2 (A.deeper (envOfC "_law_least_of_all" (defScope s__law_least_of_all) s.heap.objs.size f cdv))) : QSs (cxOf CX0 P w K mg base nm__law_least_of_all "_law_least_of_all" (defScope s__law_least_of_all) f cdv A outer s H E).nox (defBody s__law_least_of_all) t__law_least_of_all :=
  qss_cons (qs_par (i := 2) (j := 3) rfl sc__law_least_of_all.nd rfl rfl (by decide) rfl rfl (qa_cons (qn_own (qn_lc (own := [("_law_word", 6)]) rfl sc__law_least_of_all.nd (qi_seq (qe_call (ok__law_words T) (hr.mono (by decide)) (by rfl) (qa_cons (qv 0) (qa_cons (qe_cb (cq_min2 rfl) (by rfl) T.b_min (by decide +kernel) (qa_cons (qv 1) (qa_cons (qe_call (ok__law_power T) (hr.mono (by decide)) (by rfl) (qa_cons (qv 0) (qa_cons (qv 1) (qa_nil)))) (qa_nil)))) (qa_nil))))) (blkOk_by (own := [("_law_word", 6)]) (N := nm__law_least_of_all) (sc := defScope s__law_least_of_all) (by decide +kernel)) (fun _ _ _ _ _ => qb_nm (i := 6) sc__law_least_of_all.nd rfl (by first | exact .inl rfl | exact .inr rfl)) (fun _ _ _ _ _ => qts_nil) (fun _ _ _ _ _ => qn_pure (qn_listOf (by rfl) T.b_list (qa_cons (qv 6) (qa_nil)))))) (qa_cons (qn_own (qn_lst (qa_nil))) (qa_nil))) (by rfl)) (qss_cons (qs_while PassesOwn.never (qt_cmp (oq_neL hr.units) (qv 2) (qn_pure (qn_lst (qa_nil)))) (qss_cons (qs_set (i := 4) sc__law_least_of_all.nd rfl (by first | exact .inl rfl | exact .inr rfl) (qe_pop (qv 2))) (qss_one (qs_if (qt_cmp (oq_eqS hr.units) (qe_cb cq_lenA (by rfl) T.b_len (by decide +kernel) (qa_cons (qv 4) (qa_nil))) (qe_call (ok__law_power T) (hr.mono (by decide)) (by rfl) (qa_cons (qv 0) (qa_cons (qv 1) (qa_nil))))) (qss_one (qs_expr (qe_extend (qv 3) (qn_slice (qn_pure (qn_lst (qa_cons (qe_ty cq_tuple (by rfl) T.b_tuple (by decide +kernel) (qa_cons (qv 4) (qa_nil))) (qa_nil)))) (qo_none) (qo_some (qe_ty cq_int (by rfl) T.b_int (by decide +kernel) (qa_cons (qe_call (ok__law_is_full T) (hr.mono (by decide)) (by rfl) (qa_cons (qe_ty cq_tuple (by rfl) T.b_tuple (by decide +kernel) (qa_cons (qv 4) (qa_nil))) (qa_cons (qv 0) (qa_cons (qv 1) (qa_nil))))) (qa_nil)))))))) (qss_cons (qs_setLcP (i := 5) (own := [("_law_at", 7)]) rfl sc__law_least_of_all.nd rfl rfl (sw_true rfl rfl rfl (by decide +kernel)) (qi_range1 (by rfl) T.b_range (qa_cons (qe_op oq_sub (qe_cb cq_lenA (by rfl) T.b_len (by decide +kernel) (qa_cons (qv 4) (qa_nil))) (qv 1)) (qa_nil))) (blkOk_by (own := [("_law_at", 7)]) (N := nm__law_least_of_all) (sc := defScope s__law_least_of_all) (by decide +kernel)) (fun _ _ _ _ _ => qb_nm (i := 7) sc__law_least_of_all.nd rfl (by first | exact .inl rfl | exact .inr rfl)) (fun _ _ _ _ _ => qts_nil) (fun _ _ _ _ _ => qe_slice (qv 4) (qo_some (qv 7)) (qo_some (qe_op oq_add (qv 7) (qv 1))))) (qss_one (qs_if (qt_cmp (oq_notinA hr.un65) (qe_slice (qv 4) (qo_some (qe_op oq_sub (qe_cb cq_lenA (by rfl) T.b_len (by decide +kernel) (qa_cons (qv 4) (qa_nil))) (qv 1))) (qo_none)) (qv 5)) (qss_one (qs_expr (qe_extend (qv 2) (qn_lc (own := [("_law_number", 8)]) rfl sc__law_least_of_all.nd (qi_range1 (by rfl) T.b_range (qa_cons (qv 0) (qa_nil))) (blkOk_by (own := [("_law_number", 8)]) (N := nm__law_least_of_all) (sc := defScope s__law_least_of_all) (by decide +kernel)) (fun _ _ _ _ _ => qb_nm (i := 8) sc__law_least_of_all.nd rfl (by first | exact .inl rfl | exact .inr rfl)) (fun _ _ _ _ _ => qts_nil) (fun _ _ _ _ _ => qe_op oq_add (qv 4) (qn_pure (qn_lst (qa_cons (qv 8) (qa_nil))))))))) (qss_nil)))))))) (qss_one (qs_ret (qe_cb (cq_minD rfl hr.units) (by rfl) T.b_min (by decide +kernel) (qa_cons (qv 3) (qa_nil))))))
theorem rd__law_least_of_all : ∀ ds S Q, sp__law_least_of_all ds S Q → t__law_least_of_all { nx := fun _ S' => Fin3 S Q (.p .none) S', rt := Fin3 S Q } (env0 9 ds) S := by
  rintro _ S Q ⟨k, n, L, rfl, k0, n0, n1, hp, FL, hmin, q⟩
  obtain ⟨l, hl, l0, l1, lN', lN⟩ : ∃ l : Nat, (if ((k ^ n : Nat) : Int) < (n : Int) then ((k ^ n : Nat) : Int) else (n : Int)) = (l : Nat) ∧ 0 < l ∧ l ≤ n ∧ l ≤ k ^ n ∧ (l = n ∨ l = k ^ n) := by
    by_cases h : k ^ n < n
    · exact ⟨k ^ n, by rw [if_pos (by omega)], Nat.pow_pos k0, by omega, Nat.le_refl _, .inr rfl⟩
    · exact ⟨n, by rw [if_neg (by omega)], by omega, Nat.le_refl _, by omega, .inl rfl⟩
  have hkn : k ≤ k ^ n := Nat.le_self_pow (by omega) k
  have hkl : k ^ l ≤ k ^ n := Nat.pow_le_pow_right k0 l1
  unfold t__law_least_of_all sp__law_power sp__law_words
  walk_at "rd"
  refine ⟨(k : Nat), n, rfl, by omega, by omega, by omega, ?_⟩
  rw [← Int.natCast_pow]
  refine ⟨k, l, by rw [hl], k0, by omega, l0, by omega, by omega, fun m S1 hm hsm hS1 hS1l => ?_⟩
  refine ⟨_, hsm, fun i acc s => s = S1 ∧ acc = ((wordsN k l).take i).map lstN, ⟨rfl, rfl⟩, ?_, ?_, ?_⟩
  · rintro i acc s ⟨rfl, rfl⟩
    exact hsm
  · rintro i x acc s hx ⟨rfl, rfl⟩
    rw [wordsN_row, List.map_map, List.getElem?_map] at hx
    obtain ⟨w, hw, rfl⟩ := Option.map_eq_some_iff.mp hx
    refine ⟨rfl, ?_⟩
    rw [take_one hw, List.map_append, ← natD_row]
    rfl
  rintro acc s ⟨hs1, rfl⟩
  subst s
  rw [wordsN_row, List.length_map, List.length_map, List.take_length]
  generalize hW : wordsN k l = W
  have fW : ∀ w ∈ W, w.length = l ∧ ∀ c ∈ w, c < k := fun w hw => (wordsN_facts k l w).mp (by rw [hW]; exact hw)
  have lW : W.length = k ^ l := by
    have := wordsL_len k l
    rw [wordsN_row, hW, List.length_map] at this
    exact this
  have hLl : L.length = k ^ n := FL.len
  have LW : L.take l ∈ W := by
    rw [← hW]
    exact (wordsN_facts k l _).mpr ⟨by rw [List.length_take, hLl]; omega, fun c hc => FL.small c (List.mem_of_mem_take hc)⟩
  have hB : wtP k (k ^ n) W ≤ 3000000 := by
    rw [wtP_start k (k ^ n) l W fun w hw => (fW w hw).1, lW]
    have h1 : (k + 1) ^ (k ^ n - l) ≤ 300000 := by
      by_cases hk : k = 1
      · rw [hk, Nat.one_pow] at lN ⊢
        exact Nat.le_trans (Nat.pow_le_pow_right (by omega) (show 1 - l ≤ 1 by omega)) (by decide)
      · have h3 : k ≤ 3 := by
          have : k ^ 2 ≤ k ^ n := Nat.pow_le_pow_right k0 (by omega)
          have h4 : k * k ≤ 9 := by rw [← Nat.pow_two]; omega
          exact Nat.le_of_not_lt fun h => by
            have := Nat.mul_le_mul (show 4 ≤ k by omega) (show 4 ≤ k by omega)
            omega
        exact Nat.le_trans (Nat.pow_le_pow_left (show k + 1 ≤ 4 by omega) _) (Nat.le_trans (Nat.pow_le_pow_right (by omega) (show k ^ n - l ≤ 9 by omega)) (by decide))
    exact Nat.le_trans (Nat.mul_le_mul (show k ^ l ≤ 9 by omega) h1) (by decide)
  have g1 : ∀ a b : Option O3, (S1 ++ [a] ++ [b])[S1.length]? = some a := fun a b => by simp
  have g2 : ∀ a b : Option O3, (S1 ++ [a] ++ [b])[S1.length + 1]? = some b := fun a b => by rw [List.append_assoc, List.getElem?_append_right (by omega), Nat.add_sub_cancel_left]; rfl
  have s1 : ∀ a b d : Option O3, (S1 ++ [a] ++ [b]).set S1.length d = S1 ++ [d] ++ [b] := fun a b d => by simp
  have s2 : ∀ a b d : Option O3, (S1 ++ [a] ++ [b]).set (S1.length + 1) d = S1 ++ [a] ++ [d] := fun a b d => by rw [List.append_assoc, List.set_append_right _ _ (by omega), Nat.add_sub_cancel_left]; simp
  have l1' : ∀ a : Option O3, (S1 ++ [a]).length = S1.length + 1 := fun a => by simp
  unfold t__law_least_of_all_r1
  walk_at "rd"
  simp only [l1']
  refine ⟨fun M e s => ∃ (Pl Fd : List (List Nat)) (z4 z5 : Option D), e = [some (.p (.int (k : Nat))), some (.p (.int (n : Nat))), some (.loc S1.length), some (.loc (S1.length + 1)), z4, z5, none, none, none] ∧ s = S1 ++ [some (.lst (Pl.map lstN))] ++ [some (.lst (Fd.map fun P => tupI (rowN P)))] ∧
    M = wtP k (k ^ n) Pl ∧ wtP k (k ^ n) Pl + Fd.length ≤ 3000000 ∧ (∀ P ∈ Pl, l ≤ P.length ∧ P.length ≤ k ^ n ∧ ∀ c ∈ P, c < k) ∧ (∀ P ∈ Fd, FulW k n P) ∧ (L ∈ Fd ∨ ∃ P ∈ Pl, ∃ j, P = L.take j), ?_, ?_⟩
  · exact ⟨_, W, [], none, none, rfl, rfl, rfl, hB, fun P hP => ⟨by rw [(fW P hP).1]; exact Nat.le_refl _, by rw [(fW P hP).1]; exact lN', (fW P hP).2⟩, fun P h => absurd h (by simp), .inr ⟨_, LW, l, rfl⟩⟩
  rintro M e s ⟨Pl, Fd, z4, z5, rfl, rfl, rfl, hle, hP, hF, hL⟩
  walk_at "rd"
  simp only [g1]
  refine ⟨⟨shaped_lstN _, by decide +kernel⟩, ?_⟩
  rw [eqv_lstN]
  rcases List.eq_nil_or_concat Pl with rfl | ⟨Pl, P, rfl⟩
  · rw [if_neg (by simp)]
    rcases hL with hL | ⟨P, hP, _⟩
    · unfold rMinD3
      simp only [lst3, g2]
      have e : (Fd.map fun P => tupI (rowN P)) = (Fd.map rowN).map tupI := by rw [List.map_map]; rfl
      rw [e]
      have hm := minOk_tupI (Fd.map rowN)
      cases hFd : Fd.map rowN with
      | nil =>
        rw [List.map_eq_nil_iff.mp hFd] at hL
        cases hL
      | cons x A =>
        rw [hFd] at hm
        refine ⟨hm, ?_⟩
        obtain ⟨y, hy, ey, hy2⟩ := minD_code tupI (fun a => a) dataLt_tupI A x
        rw [ey]
        rw [← hFd] at hy hy2
        obtain ⟨Y, hY, rfl⟩ := List.mem_map.mp hy
        have a1 := hmin Y (hF Y hY)
        have a2 := hy2 (rowN L) (List.mem_map_of_mem hL)
        rw [lexI_tot a1 a2]
        rw [List.append_assoc]
        exact fin_of (by rw [List.take_append_of_le_length hS1l, hS1]) q
    · cases hP
  · rw [List.concat_eq_append] at *
    rw [if_pos (by simp)]
    obtain ⟨p1, p2, p3⟩ := hP P (by simp)
    have hw1 : 0 < (k + 1) ^ (k ^ n - P.length) := Nat.pow_pos (by omega)
    rw [wtP_app, wtP_one] at hle
    unfold t__law_least_of_all_b1
    walk_at "rd"
    simp only [g1, s1]
    rw [List.map_append, List.map_singleton, List.getLast?_concat, List.dropLast_concat]
    walk_at "rd"
    unfold t__law_least_of_all_b1_r1 sp__law_power sp__law_is_full
    rw [show lstN P = .list (natD P) from rfl]
    walk_at "rd"
    refine ⟨(k : Nat), n, rfl, by omega, by omega, by omega, ?_⟩
    rw [← Int.natCast_pow, natD_len]
    by_cases hN : P.length = k ^ n
    · rw [if_pos (by omega)]
      simp only [g2]
      refine ⟨rowN P, k, n, by rw [natD_row]; rfl, by rw [rowN_len]; omega, by rw [rowN_len]; omega, by omega, by omega, by omega, ?_⟩
      simp only [s2]
      have hPe : PyData.tuple (natD P) = tupI (rowN P) := by rw [natD_row]; rfl
      rw [hPe]
      have hPL : ∀ j, P = L.take j → P = L := fun j e => by
        rw [e, List.length_take] at hN
        rw [e]
        exact List.take_of_length_le (by omega)
      cases hf : fulR (rowN P) k n with
      | true =>
        have e1 : cut3 [tupI (rowN P)] none (some (if true = true then 1 else 0)) = [tupI (rowN P)] := cut3_to [tupI (rowN P)] 1
        rw [e1]
        refine ⟨by simp only [List.length_map, List.length_singleton]; omega, wk_self ⟨_, ?_, Pl, Fd ++ [P], _, _, rfl, by rw [List.map_append]; rfl, rfl, by rw [List.length_append, List.length_singleton]; omega, fun P' hP' => hP P' (by simp [hP']), fun P' hP' => ?_, ?_⟩⟩
        · rw [wtP_app, wtP_one]
          omega
        · rcases List.mem_append.mp hP' with h | h
          · exact hF P' h
          · rw [List.mem_singleton.mp h]
            exact fulR_ful k0 (by omega) hf
        · rcases hL with h | ⟨P', h, j, e⟩
          · exact .inl (List.mem_append_left _ h)
          · rcases List.mem_append.mp h with h | h
            · exact .inr ⟨P', h, j, e⟩
            · rw [List.mem_singleton.mp h] at e
              exact .inl (by rw [← hPL j e]; simp)
      | false =>
        have e1 : cut3 [tupI (rowN P)] none (some (if false = true then 1 else 0)) = [] := cut3_to [tupI (rowN P)] 0
        rw [e1]
        refine ⟨by simp only [List.length_map, List.length_nil]; omega, wk_self ⟨_, ?_, Pl, Fd, _, _, rfl, by rw [List.append_nil], rfl, by omega, fun P' hP' => hP P' (by simp [hP']), hF, ?_⟩⟩
        · rw [wtP_app, wtP_one]
          omega
        · rcases hL with h | ⟨P', h, j, e⟩
          · exact .inl h
          · rcases List.mem_append.mp h with h | h
            · exact .inr ⟨P', h, j, e⟩
            · rw [List.mem_singleton.mp h] at e
              rw [hPL j e, FL.told.1] at hf
              cases hf
    · rw [if_neg (by omega)]
      have hlt : P.length < k ^ n := by omega
      have hnl : n ≤ P.length := by rcases lN with e | e <;> omega
      refine ⟨⟨by omega, by omega⟩, fun i acc s => s = S1 ++ [some (.lst (Pl.map lstN))] ++ [some (.lst (Fd.map fun P => tupI (rowN P)))] ∧ acc = (List.range i).map fun a => lstN ((P.drop a).take n), ⟨rfl, rfl⟩, fun _ _ _ _ => trivial, ?_, ?_⟩
      · rintro i x acc s hx ⟨rfl, rfl⟩
        obtain ⟨hi, rfl⟩ := rng_get hx
        have ei : PyData.list (((natD P).drop i).take n) = lstN ((P.drop i).take n) := by
          unfold lstN natD
          rw [List.map_take, List.map_drop]
        walk_at "rd"
        rw [Int.zero_add, show ((i : Nat) : Int) + (n : Int) = ((i + n : Nat) : Int) by omega, cut3_seg, List.range_succ, List.map_append, ei]
        rfl
      · rintro acc s ⟨rfl, rfl⟩
        rw [rng_len, show ((P.length : Int) - (n : Int)).toNat = P.length - n by omega]
        walk_at "rd"
        have ed : PyData.list (cut3 (natD P) (some ((P.length : Int) - (n : Int))) none) = lstN (P.drop (P.length - n)) := by
          rw [show ((P.length : Int) - (n : Int)) = ((P.length - n : Nat) : Int) by omega, cut3_from]
          unfold lstN natD
          rw [List.map_drop]
        have ew : ((List.range (P.length - n)).map fun a => lstN ((P.drop a).take n)) = ((List.range (P.length - n)).map fun a => (P.drop a).take n).map lstN := by
          rw [List.map_map]
          rfl
        have hPj : ∀ j, P = L.take j → P = L.take P.length := fun j e => by
          have e2 := congrArg List.length e
          rw [List.length_take] at e2
          conv => lhs; rw [e]
          rw [show P.length = j by omega]
        rw [ed]
        refine ⟨⟨shaped_natD _, by rw [ew]; exact shaped_lstN _⟩, ?_⟩
        by_cases hany : (((List.range (P.length - n)).map fun a => lstN ((P.drop a).take n)).any fun z => z.eqv (lstN (P.drop (P.length - n)))) = false
        · rw [if_pos hany]
          simp only [g1]
          refine ⟨⟨by omega, by omega⟩, fun i acc s => s = S1 ++ [some (.lst (Pl.map lstN))] ++ [some (.lst (Fd.map fun P => tupI (rowN P)))] ∧ acc = (List.range i).map fun c => lstN (P ++ [c]), ⟨rfl, rfl⟩, fun _ _ _ _ => trivial, ?_, ?_⟩
          · rintro i x acc s hx ⟨rfl, rfl⟩
            obtain ⟨hi, rfl⟩ := rng_get hx
            refine ⟨by omega, rfl, ?_⟩
            have ei : PyData.list (natD P ++ [.int (i : Nat)]) = lstN (P ++ [i]) := by
              unfold lstN natD
              rw [List.map_append]
              rfl
            rw [List.range_succ, List.map_append, Int.zero_add, ei]
            rfl
          · rintro acc s ⟨rfl, rfl⟩
            rw [rng_len, Int.toNat_natCast]
            simp only [g1, s1]
            have wst := wtP_step k (k ^ n) hlt
            have wl := wtP_len k (k ^ n) (Pl ++ (List.range k).map fun c => P ++ [c])
            rw [wtP_app, List.length_append, List.length_map, List.length_range] at wl
            refine ⟨by simp only [List.length_map, List.length_range]; omega, wk_self ⟨_, ?_, Pl ++ (List.range k).map fun c => P ++ [c], Fd, _, _, rfl, by rw [List.map_append, List.map_map]; rfl, rfl, ?_, ?_, hF, ?_⟩⟩
            · rw [wtP_app, wtP_app, wtP_one]
              omega
            · rw [wtP_app]
              omega
            · intro P' hP'
              rcases List.mem_append.mp hP' with h | h
              · exact hP P' (by simp [h])
              · obtain ⟨c, hc, rfl⟩ := List.mem_map.mp h
                refine ⟨by simp only [List.length_append, List.length_singleton]; omega, by simp only [List.length_append, List.length_singleton]; omega, fun d hd => ?_⟩
                rcases List.mem_append.mp hd with hd | hd
                · exact p3 d hd
                · rw [List.mem_singleton.mp hd]
                  exact List.mem_range.mp hc
            · rcases hL with h | ⟨P', h, j, e⟩
              · exact .inl h
              · rcases List.mem_append.mp h with h | h
                · exact .inr ⟨P', List.mem_append_left _ h, j, e⟩
                · rw [List.mem_singleton.mp h] at e
                  have e2 := hPj j e
                  have e3 := pre_next FL (j := P.length) (by omega)
                  rw [← e2] at e3
                  exact .inr ⟨_, List.mem_append_right _ e3, P.length + 1, rfl⟩
        · rw [if_neg hany]
          refine wk_self ⟨_, ?_, Pl, Fd, _, _, rfl, rfl, rfl, by omega, fun P' hP' => hP P' (by simp [hP']), hF, ?_⟩
          · rw [wtP_app, wtP_one]
            omega
          · rcases hL with h | ⟨P', h, j, e⟩
            · exact .inl h
            · rcases List.mem_append.mp h with h | h
              · exact .inr ⟨P', h, j, e⟩
              · rw [List.mem_singleton.mp h] at e
                have e2 := hPj j e
                rw [Bool.not_eq_false, List.any_eq_true] at hany
                obtain ⟨z, hz, hq⟩ := hany
                obtain ⟨a, ha, rfl⟩ := List.mem_map.mp hz
                have e3 := lstN_inj hq
                have e4 := beg_new FL (j := P.length) (a := a) (by omega) hnl (List.mem_range.mp ha)
                rw [← e2] at e4
                exact (e4 e3).elim
theorem ok__law_least_of_all (T : Txt K mg base) : Ok3 P w K mg base 3 "_law_least_of_all" sp__law_least_of_all := by
  obtain ⟨f, fd, F, hm, hb⟩ := T.f__law_least_of_all
  exact Ok3.mk' F hm hb sc__law_least_of_all (fun ds S Q h => by simp only [sp__law_least_of_all] at h; first | (obtain ⟨rfl, _⟩ := h; rfl) | (obtain ⟨_, rfl, _⟩ := h; rfl) | (obtain ⟨_, _, rfl, _⟩ := h; rfl) | (obtain ⟨_, _, _, rfl, _⟩ := h; rfl) | (obtain ⟨_, _, _, _, rfl, _⟩ := h; rfl) | (obtain ⟨_, _, _, _, _, rfl, _⟩ := h; rfl) | (obtain ⟨_, _, _, _, _, _, rfl, _⟩ := h; rfl) | (obtain ⟨_, _, _, _, _, _, _, rfl, _⟩ := h; rfl) | (obtain ⟨_, _, _, _, _, _, _, _, rfl, _⟩ := h; rfl) | (obtain ⟨_, _, _, _, _, _, _, _, _, rfl, _⟩ := h; rfl) | (obtain ⟨_, _, _, _, _, _, _, _, _, _, rfl, _⟩ := h; rfl) | exact h.2) (fun cdv A outer s H E hr => dv__law_least_of_all T hr) rd__law_least_of_all
def sp_law : Sp3 := spLaw3
def t_law_b2 : TS3 := tSeq3 (tSet3 7 (tCB3 sp__law_full (tCons3 (tVar3 2) (tCons3 (tVar3 3) (tCons3 (tVar3 4) (tNil3)))))) (tIfS3 (tTest3 (tOp3 rLtD3 (tCB3 (rMinD3) (tCons3 (tPure (tLc3 (tRng1 (tCons3 (tCB3 (rLenA3) (tCons3 (tVar3 7) (tNil3))) (tNil3))) (.nm 8) (tTest3 (tOp3 rEqS3 (tOp3 rIx3 (tVar3 7) (tVar3 8)) (tC3 (.int 0)))) (tOp3 rAdd3 (tSl3 (tVar3 7) (tPart3 (tVar3 8)) (tNoPart3)) (tSl3 (tVar3 7) (tNoPart3) (tPart3 (tVar3 8)))) [8])) (tNil3))) (tVar3 5))) (tRet3 (tC3 (.bool false))) (tNext3))
def t_law_b1 : TS3 := tSeq3 (tSet3 2 (tCB3 sp__law_hand (tCons3 (tVar3 0) (tCons3 (tVar3 1) (tNil3))))) (tSeq3 (tAsgT3 (tCB3 sp__law_sizes (tCons3 (tVar3 2) (tNil3))) (.tup (.cons (.nm 3) (.cons (.nm 4) (.nil))))) (tSeq3 (tSet3 5 (tCB3 sp_least_row (tCons3 (tVar3 3) (tCons3 (tVar3 4) (tNil3))))) (tSeq3 (tIfS3 (tOr3 (tNot3 (tTest3 (tCB3 (sp__law_same 4) (tCons3 (tVar3 5) (tCons3 (tCB3 sp__law_put_together (tCons3 (tVar3 3) (tCons3 (tVar3 4) (tNil3)))) (tNil3)))))) (tNot3 (tTest3 (tCB3 sp__law_is_full (tCons3 (tVar3 5) (tCons3 (tVar3 3) (tCons3 (tVar3 4) (tNil3)))))))) (tRet3 (tC3 (.bool false))) (tNext3)) (tSeq3 (tIfS3 (tTest3 (tOp3 rNeS3 (tCB3 sp_least_row (tCons3 (tVar3 3) (tCons3 (tVar3 4) (tNil3)))) (tVar3 5))) (tRet3 (tC3 (.bool false))) (tNext3)) (tSeq3 (tFor3 (tRng1 (tCons3 (tC3 (.int 2)) (tNil3))) (.nm 6) (t_law_b2)) (tIfS3 (tAnd3 (tTest3 (tOp3 rGt3 (tVar3 4) (tC3 (.int 1)))) (tAnd3 (tTest3 (tOp3 rLtD3 (tCB3 sp__law_power (tCons3 (tVar3 3) (tCons3 (tVar3 4) (tNil3)))) (tC3 (.int 10)))) (tTest3 (tOp3 rNeS3 (tCB3 sp__law_least_of_all (tCons3 (tVar3 3) (tCons3 (tVar3 4) (tNil3)))) (tVar3 5))))) (tRet3 (tC3 (.bool false))) (tNext3)))))))
def t_law : TS3 := tSeq3 (tFor3 (tRng1 (tCons3 (tCB3 (rInt2 (fun i j => if j > i then j else i)) (tCons3 (tC3 (.int 1)) (tCons3 (tCB3 (rInt2 (fun i j => if j < i then j else i)) (tCons3 (tC3 (.int 4)) (tCons3 (tCB3 (rLenA3) (tCons3 (tVar3 0) (tNil3))) (tNil3)))) (tNil3)))) (tNil3))) (.nm 1) (t_law_b1)) (tRet3 (tC3 (.bool true)))
theorem dv_law (T : Txt K mg base) {f : Addr} {cdv : Value} {A : Around} {outer : List Env} {s : Shared} {H : Hp} {E : XK} (hgd : A.guards = some []) (hr : Room 5 (A.deeper (envOfC "law" (defScope s_law) s.heap.objs.size f cdv))) : QSs (cxOf CX0 P w K mg base nm_law "law" (defScope s_law) f cdv A outer s H E).nox (defBody s_law) t_law :=
  qss_cons (qs_for PassesOwn.never rfl (qi_range1 (by rfl) T.b_range (qa_cons (qe_cb (cq_max2 rfl) (by rfl) T.b_max (by decide +kernel) (qa_cons (qe_int) (qa_cons (qe_cb (cq_min2 rfl) (by rfl) T.b_min (by decide +kernel) (qa_cons (qe_int) (qa_cons (qe_cb cq_lenA (by rfl) T.b_len (by decide +kernel) (qa_cons (qv 0) (qa_nil))) (qa_nil)))) (qa_nil)))) (qa_nil))) (qb_nm (i := 1) sc_law.nd rfl (by first | exact .inl rfl | exact .inr rfl)) (qss_cons (qs_set (i := 2) sc_law.nd rfl (by first | exact .inl rfl | exact .inr rfl) (qe_call (ok__law_hand T) (hr.mono (by decide)) (by rfl) (qa_cons (qv 0) (qa_cons (qv 1) (qa_nil))))) (qss_cons (qs_asgT (qe_call (ok__law_sizes T) (hr.mono (by decide)) (by rfl) (qa_cons (qv 2) (qa_nil))) (qb_tup rfl (qbs_cons (qb_nm (i := 3) sc_law.nd rfl (by first | exact .inl rfl | exact .inr rfl)) (qbs_cons (qb_nm (i := 4) sc_law.nd rfl (by first | exact .inl rfl | exact .inr rfl)) (qbs_nil))))) (qss_cons (qs_set (i := 5) sc_law.nd rfl (by first | exact .inl rfl | exact .inr rfl) (qe_call (ok_least_row T) (hr.mono (by decide)) (by rfl) (qa_cons (qv 3) (qa_cons (qv 4) (qa_nil))))) (qss_cons (qs_if (qt_w (qw_or (qt_not (qt_val (qe_call (ok__law_same T 4) (hr.mono (by decide)) (by rfl) (qa_cons (qv 5) (qa_cons (qe_call (ok__law_put_together T) (hr.mono (by decide)) (by rfl) (qa_cons (qv 3) (qa_cons (qv 4) (qa_nil)))) (qa_nil)))))) (qw_or1 (qt_not (qt_val (qe_call (ok__law_is_full T) (hr.mono (by decide)) (by rfl) (qa_cons (qv 5) (qa_cons (qv 3) (qa_cons (qv 4) (qa_nil)))))))))) (qss_one (qs_ret (qe_bl))) (qss_nil)) (qss_cons (qs_if (qt_cmp (oq_neS hr.units) (qe_call (ok_least_row T) (hr.mono (by decide)) (by rfl) (qa_cons (qv 3) (qa_cons (qv 4) (qa_nil)))) (qv 5)) (qss_one (qs_ret (qe_bl))) (qss_nil)) (qss_cons (qs_for PassesOwn.never rfl (qi_range1 (by rfl) T.b_range (qa_cons (qe_int) (qa_nil))) (qb_nm (i := 6) sc_law.nd rfl (by first | exact .inl rfl | exact .inr rfl)) (qss_cons (qs_set (i := 7) sc_law.nd rfl (by first | exact .inl rfl | exact .inr rfl) (qe_call (ok__law_full T) (hr.mono (by decide)) (by rfl) (qa_cons (qv 2) (qa_cons (qv 3) (qa_cons (qv 4) (qa_nil)))))) (qss_one (qs_if (qt_cmp (oq_ltD hr.units) (qe_cb (cq_minD rfl hr.units) (by rfl) T.b_min (by decide +kernel) (qa_cons (qn_pure (qn_lc (own := [("_law_at", 8)]) rfl sc_law.nd (qi_range1 (by rfl) T.b_range (qa_cons (qe_cb cq_lenA (by rfl) T.b_len (by decide +kernel) (qa_cons (qv 7) (qa_nil))) (qa_nil))) (blkOk_by (own := [("_law_at", 8)]) (N := nm_law) (sc := defScope s_law) (by decide +kernel)) (fun _ _ _ _ _ => qb_nm (i := 8) sc_law.nd rfl (by first | exact .inl rfl | exact .inr rfl)) (fun _ _ _ _ _ => qts_one (qt_cmp (oq_eqS hr.units) (qe_ix iq_seq (qv 7) (qv 8)) (qe_int))) (fun _ _ _ _ _ => qe_op oq_add (qe_slice (qv 7) (qo_some (qv 8)) (qo_none)) (qe_slice (qv 7) (qo_none) (qo_some (qv 8)))))) (qa_nil))) (qv 5)) (qss_one (qs_ret (qe_bl))) (qss_nil))))) (qss_one (qs_if (qt_w (qw_and (qt_cmp oq_gt (qv 4) (qe_int)) (qw_and (qt_cmp (oq_ltD hr.units) (qe_call (ok__law_power T) (hr.mono (by decide)) (by rfl) (qa_cons (qv 3) (qa_cons (qv 4) (qa_nil)))) (qe_int)) (qw_and1 (qt_cmp (oq_neS hr.units) (qe_call (ok__law_least_of_all T) (hr.mono (by decide)) (by rfl) (qa_cons (qv 3) (qa_cons (qv 4) (qa_nil)))) (qv 5)))))) (qss_one (qs_ret (qe_bl))) (qss_nil)))))))))) (qss_one (qs_ret (qe_bl)))
theorem rd_law : ∀ ds S Q, sp_law ds S Q → t_law { nx := fun _ S' => Fin3 S Q (.p .none) S', rt := Fin3 S Q } (env0 9 ds) S := by
  rintro _ S Q ⟨ns, rfl, hl, rfl, q⟩
  unfold t_law
  walk_at "rd"
  refine ⟨by constructor <;> (repeat split) <;> omega, ?_⟩
  refine ⟨fun i e s => s = [] ∧ e = [some (.p (.list (ns.map PyData.int))), none, none, none, none, none, none, none, none], ⟨rfl, rfl⟩, fun _ _ _ _ => trivial, ?_, ?_⟩
  · rintro i d e s hd ⟨rfl, rfl⟩
    obtain ⟨hi, rfl⟩ := rng_get hd
    have hi2 : i < 5 := by
      have : (if (if (ns.length : Int) < 4 then (ns.length : Int) else (4 : Int)) > 1 then (if (ns.length : Int) < 4 then (ns.length : Int) else (4 : Int)) else 1) ≤ 4 := by (repeat split) <;> omega
      omega
    unfold t_law_b1 sp__law_hand sp__law_sizes
    walk_at "rd"
    refine ⟨ns, _, rfl, hl, by omega, by omega, fun S0 hd0 htk hlen => ?_⟩
    have hd0 : HdB S0 0 0 := hd0
    have hlen : S0.length = 1 := hlen
    walk_at "rd"
    refine ⟨0, 0, rfl, hd0, by decide, fun k n S1 k0 k1 n0 n1 hp hck t1 hd1 => ?_⟩
    have l1 : S1.length = 1 := by rw [t1.len]; exact hlen
    obtain ⟨r, h1, h2, R, h4, hmin⟩ := okT_row k0 n0 hck
    have hrl : r.length = k ^ n := R.len
    have hpos := R.pos
    obtain ⟨f1, f2⟩ := R.told
    unfold sp_least_row
    walk_at "rd"
    refine ⟨k, n, _, rfl, k0, k1, n0, n1, hp, h1, by rw [h2, rowN_len]; omega, ?_⟩
    rw [h2]
    unfold sp__law_same sp__law_put_together sp__law_is_full
    walk_at "rd"
    refine ⟨k, n, rfl, k0, k1, n0, n1, hp, by rw [h2, rowN_len]; omega, ?_⟩
    rw [h2]
    refine ⟨_, rfl, it_tupI 3 _, rowN r, k, n, rfl, by rw [rowN_len]; omega, by rw [rowN_len]; omega, by omega, n0, by omega, ?_⟩
    rw [f1]
    walk_at "rd"
    refine ⟨k, n, _, rfl, k0, k1, n0, n1, hp, h1, by rw [h2, rowN_len]; omega, ?_⟩
    rw [h2]
    unfold tupI
    walk_at "rd"
    refine ⟨shaped_tints _, ?_⟩
    rw [eqv_tints, if_neg (by simp)]
    obtain ⟨m, rfl⟩ : ∃ m, n = m + 1 := ⟨n - 1, by omega⟩
    refine ⟨fun j e s' => ∃ (z6 z7 : Option D), j ≤ 2 ∧ HdB s' 0 (20 + 600 * (j : Int)) ∧ s'.length = 1 ∧ e = [some (.p (.list (ns.map PyData.int))), some (.p (.int (0 + (i : Nat)))), some (.loc 0), some (.p (.int (k : Nat))), some (.p (.int ((m + 1 : Nat) : Int))), some (.p (.tuple ((rowN r).map PyData.int))), z6, z7, none], ⟨none, none, by omega, by simpa using hd1, l1, rfl⟩, fun _ _ _ _ => trivial, ?_, ?_⟩
    · rintro j x e s' hx ⟨z6, z7, _, hd2, l2, rfl⟩
      obtain ⟨hj, rfl⟩ := rng_get hx
      have hj : j < 2 := by simpa using hj
      unfold t_law_b2 sp__law_full
      walk_at "rd"
      refine ⟨0, k, m, _, rfl, k0, k1, by omega, hp, hd2, by omega, fun o S3 ho t3 hd3 => ?_⟩
      have O := ho.ful
      have hol : o.length = k ^ (m + 1) := O.len
      have l3 : S3.length = 1 := by rw [t3.len]; exact l2
      unfold tupI
      walk_at "rd"
      rw [rowN_len]
      refine ⟨by omega, fun a acc s => s = S3 ∧ acc = (((List.range a).filter fun a => decide (cS o a = 0)).map fun a => rowN (o.drop a ++ o.take a)).map tupI, ⟨rfl, rfl⟩, fun _ _ _ _ => trivial, ?_, ?_⟩
      · rintro a x acc s hx ⟨rfl, rfl⟩
        obtain ⟨ha, rfl⟩ := rng_get hx
        have ha' : a < o.length := by omega
        have hat : atI ((rowN o).map PyData.int) (0 + ((a : Nat) : Int)) = some (.int ((cS o a : Nat) : Int)) := by
          rw [Int.zero_add]
          refine atI_nat ?_
          unfold rowN cS
          rw [List.getElem?_map, List.getElem?_map, Nat.mod_eq_of_lt ha', List.getD_eq_getElem?_getD, List.getElem?_eq_getElem ha']
          rfl
        walk_at "rd"
        simp only [hat]
        rw [Int.zero_add, eqv_int]
        refine ⟨⟨rfl, trivial⟩, ?_⟩
        rw [List.range_succ, List.filter_append]
        by_cases c : cS o a = 0
        · rw [if_pos (by simp [c]), cut3_from, cut3_to, List.filter_cons_of_pos (by simp [c]), List.filter_nil, List.map_append, List.map_append]
          refine ⟨by simp only [List.length_drop, List.length_take, List.length_map, rowN_len]; omega, ?_⟩
          have er : PyData.tuple (((rowN o).map PyData.int).drop a ++ ((rowN o).map PyData.int).take a) = tupI (rowN (o.drop a ++ o.take a)) := by
            unfold tupI rowN
            rw [List.map_append, List.map_append, List.map_drop, List.map_take, List.map_drop, List.map_take]
          rw [er]
          rfl
        · rw [if_neg (by simp; omega), List.filter_cons_of_neg (by simp [c]), List.filter_nil, List.append_nil]
      · rintro acc s ⟨rfl, rfl⟩
        rw [rng_len, Int.toNat_natCast]
        walk_at "rd"
        obtain ⟨a0, ha0, hv0⟩ := O.hit 0 (Nat.pow_pos k0)
        have hc0 : cS o a0 = 0 := by
          have := (valS_zero k0 a0 (m + 1)).mp hv0 0 (by omega)
          simpa using this
        have hG0 : rowN (o.drop a0 ++ o.take a0) ∈ ((List.range o.length).filter fun a => decide (cS o a = 0)).map fun a => rowN (o.drop a ++ o.take a) := List.mem_map.mpr ⟨a0, List.mem_filter.mpr ⟨List.mem_range.mpr ha0, by simp [hc0]⟩, rfl⟩
        have hG : ∀ x ∈ ((List.range o.length).filter fun a => decide (cS o a = 0)).map fun a => rowN (o.drop a ++ o.take a), ∃ t : List Nat, x = rowN t ∧ FulW k (m + 1) t := fun x hx => by
          obtain ⟨a, ha, rfl⟩ := List.mem_map.mp hx
          exact ⟨_, rfl, O.turn (List.mem_range.mp (List.mem_filter.mp ha).1)⟩
        generalize ((List.range o.length).filter fun a => decide (cS o a = 0)).map (fun a => rowN (o.drop a ++ o.take a)) = G at hG0 hG ⊢
        have hm := minOk_tupI G
        unfold rMinD3
        simp only [lst3]
        cases G with
        | nil => cases hG0
        | cons x A =>
          refine ⟨hm, ?_⟩
          obtain ⟨y, hy, ey, _⟩ := minD_code tupI (fun a => a) dataLt_tupI A x
          rw [ey]
          obtain ⟨t, rfl, ht⟩ := hG y hy
          have a1 := hmin t ht
          show LtOk (tupI (rowN t)) (tupI (rowN r)) ∧ if PySem.W.dataLt (tupI (rowN t)) (tupI (rowN r)) = true then _ else _
          refine ⟨ltOk_rows _ _, ?_⟩
          rw [dataLt_tupI, a1, if_neg (by decide)]
          exact wk_self ⟨_, _, by omega, by rw [show (20 + 600 * ((j + 1 : Nat) : Int)) = 20 + 600 * (j : Int) + 600 by omega]; exact hd3, l3, rfl⟩
    · rintro e s' ⟨z6, z7, _, hd2, l2, rfl⟩
      unfold sp__law_power sp__law_least_of_all
      walk_at "rd"
      have fin : ∀ X : S3 → Prop, (X = Wk 0 (fun e s => s = [] ∧ e = [some (D.p (.list (ns.map PyData.int))), none, none, none, none, none, none, none, none]) [some (.p (.list (ns.map PyData.int))), some (.p (.int (0 + (i : Nat)))), some (.loc 0), some (.p (.int (k : Nat))), some (.p (.int ((m + 1 : Nat) : Int))), some (.p (.tuple ((rowN r).map PyData.int))), z6, z7, none]) → X s' := fun X e => by
        rw [e]
        exact .inr ⟨0, _, Nat.zero_le _, .keep (.drop (.drop (.drop (.drop (.drop (.drop (.drop (.drop .nil)))))))), by rw [List.take_zero], rfl⟩
      by_cases h1n : (1 : Int) < ((m + 1 : Nat) : Int)
      · rw [if_pos h1n]
        refine ⟨(k : Nat), m + 1, rfl, by omega, by omega, by omega, ?_⟩
        rw [← Int.natCast_pow]
        by_cases h10 : ((k ^ (m + 1) : Nat) : Int) < 10
        · rw [if_pos h10]
          refine ⟨k, m + 1, r, rfl, k0, by omega, n1, by omega, R, hmin, ?_⟩
          unfold tupI
          walk_at "rd"
          refine ⟨shaped_tints _, ?_⟩
          rw [eqv_tints, if_neg (by simp)]
          exact fin _ rfl
        · rw [if_neg h10]
          exact fin _ rfl
      · rw [if_neg h1n]
        exact fin _ rfl
  · rintro e s ⟨rfl, rfl⟩
    exact fin_p (q _)
theorem ok_law (T : Txt K mg base) : Ok3G P w K mg base 6 "law" sp_law := by
  obtain ⟨f, fd, F, hm, hb⟩ := T.f_law
  exact Ok3G.mk' F hm hb sc_law (fun ds S Q h => by simp only [sp_law] at h; first | (obtain ⟨rfl, _⟩ := h; rfl) | (obtain ⟨_, rfl, _⟩ := h; rfl) | (obtain ⟨_, _, rfl, _⟩ := h; rfl) | (obtain ⟨_, _, _, rfl, _⟩ := h; rfl) | (obtain ⟨_, _, _, _, rfl, _⟩ := h; rfl) | (obtain ⟨_, _, _, _, _, rfl, _⟩ := h; rfl) | (obtain ⟨_, _, _, _, _, _, rfl, _⟩ := h; rfl) | (obtain ⟨_, _, _, _, _, _, _, rfl, _⟩ := h; rfl) | (obtain ⟨_, _, _, _, _, _, _, _, rfl, _⟩ := h; rfl) | (obtain ⟨_, _, _, _, _, _, _, _, _, rfl, _⟩ := h; rfl) | (obtain ⟨_, _, _, _, _, _, _, _, _, _, rfl, _⟩ := h; rfl) | exact h.2) (fun cdv A outer s H E hgd hr => dv_law T hgd hr) rd_law
end
theorem all_mk {l : PySem.W.OpenLaw} {w : World} {K : PySem.W.Frag} {h : Heap} {mg : Str → Option Value} {fa : Addr} (X : K.In h) (G : h.Ns mainGlobals mg) (hfa : mg "law" = some (.ref fa))
    {f0 : Addr} {od0 an0 : Option Addr} {sl0 : Array (Option Value)} {oc0 kV0 dc0 pm0 cd0 ct0 : Value} (a0 : PySem.W.nsIn K mainGlobals "raised" = some (some (.ref f0))) (l0 : K.lookup f0 = some ⟨oc0, od0, .func (PySem.W.fnOf "raised" "raised" (defArgs s_raised) (defBody s_raised) (defScope s_raised) .none kV0 dc0 pm0 an0 cd0 ct0), sl0⟩) (c0 : PySem.W.codeIn K cd0 "raised" = true) (k0 : PySem.W.keepIn K (.ref f0) = true)
    {f1 : Addr} {od1 an1 : Option Addr} {sl1 : Array (Option Value)} {oc1 kV1 dc1 pm1 cd1 ct1 : Value} (a1 : PySem.W.nsIn K mainGlobals "need_few" = some (some (.ref f1))) (l1 : K.lookup f1 = some ⟨oc1, od1, .func (PySem.W.fnOf "need_few" "need_few" (defArgs s_need_few) (defBody s_need_few) (defScope s_need_few) .none kV1 dc1 pm1 an1 cd1 ct1), sl1⟩) (c1 : PySem.W.codeIn K cd1 "need_few" = true) (k1 : PySem.W.keepIn K (.ref f1) = true)
    {f2 : Addr} {od2 an2 : Option Addr} {sl2 : Array (Option Value)} {oc2 kV2 dc2 pm2 cd2 ct2 : Value} (a2 : PySem.W.nsIn K mainGlobals "least_words" = some (some (.ref f2))) (l2 : K.lookup f2 = some ⟨oc2, od2, .func (PySem.W.fnOf "least_words" "least_words" (defArgs s_least_words) (defBody s_least_words) (defScope s_least_words) .none kV2 dc2 pm2 an2 cd2 ct2), sl2⟩) (c2 : PySem.W.codeIn K cd2 "least_words" = true) (k2 : PySem.W.keepIn K (.ref f2) = true)
    {f3 : Addr} {od3 an3 : Option Addr} {sl3 : Array (Option Value)} {oc3 kV3 dc3 pm3 cd3 ct3 : Value} (a3 : PySem.W.nsIn K mainGlobals "least_row" = some (some (.ref f3))) (l3 : K.lookup f3 = some ⟨oc3, od3, .func (PySem.W.fnOf "least_row" "least_row" (defArgs s_least_row) (defBody s_least_row) (defScope s_least_row) .none kV3 dc3 pm3 an3 cd3 ct3), sl3⟩) (c3 : PySem.W.codeIn K cd3 "least_row" = true) (k3 : PySem.W.keepIn K (.ref f3) = true)
    {f4 : Addr} {od4 an4 : Option Addr} {sl4 : Array (Option Value)} {oc4 kV4 dc4 pm4 cd4 ct4 : Value} (a4 : PySem.W.nsIn K mainGlobals "_law_power" = some (some (.ref f4))) (l4 : K.lookup f4 = some ⟨oc4, od4, .func (PySem.W.fnOf "_law_power" "_law_power" (defArgs s__law_power) (defBody s__law_power) (defScope s__law_power) .none kV4 dc4 pm4 an4 cd4 ct4), sl4⟩) (c4 : PySem.W.codeIn K cd4 "_law_power" = true) (k4 : PySem.W.keepIn K (.ref f4) = true)
    {f5 : Addr} {od5 an5 : Option Addr} {sl5 : Array (Option Value)} {oc5 kV5 dc5 pm5 cd5 ct5 : Value} (a5 : PySem.W.nsIn K mainGlobals "_law_hand" = some (some (.ref f5))) (l5 : K.lookup f5 = some ⟨oc5, od5, .func (PySem.W.fnOf "_law_hand" "_law_hand" (defArgs s__law_hand) (defBody s__law_hand) (defScope s__law_hand) .none kV5 dc5 pm5 an5 cd5 ct5), sl5⟩) (c5 : PySem.W.codeIn K cd5 "_law_hand" = true) (k5 : PySem.W.keepIn K (.ref f5) = true)
    {f6 : Addr} {od6 an6 : Option Addr} {sl6 : Array (Option Value)} {oc6 kV6 dc6 pm6 cd6 ct6 : Value} (a6 : PySem.W.nsIn K mainGlobals "_law_take" = some (some (.ref f6))) (l6 : K.lookup f6 = some ⟨oc6, od6, .func (PySem.W.fnOf "_law_take" "_law_take" (defArgs s__law_take) (defBody s__law_take) (defScope s__law_take) .none kV6 dc6 pm6 an6 cd6 ct6), sl6⟩) (c6 : PySem.W.codeIn K cd6 "_law_take" = true) (k6 : PySem.W.keepIn K (.ref f6) = true)
    {f7 : Addr} {od7 an7 : Option Addr} {sl7 : Array (Option Value)} {oc7 kV7 dc7 pm7 cd7 ct7 : Value} (a7 : PySem.W.nsIn K mainGlobals "_law_pick" = some (some (.ref f7))) (l7 : K.lookup f7 = some ⟨oc7, od7, .func (PySem.W.fnOf "_law_pick" "_law_pick" (defArgs s__law_pick) (defBody s__law_pick) (defScope s__law_pick) .none kV7 dc7 pm7 an7 cd7 ct7), sl7⟩) (c7 : PySem.W.codeIn K cd7 "_law_pick" = true) (k7 : PySem.W.keepIn K (.ref f7) = true)
    {f8 : Addr} {od8 an8 : Option Addr} {sl8 : Array (Option Value)} {oc8 kV8 dc8 pm8 cd8 ct8 : Value} (a8 : PySem.W.nsIn K mainGlobals "_law_same" = some (some (.ref f8))) (l8 : K.lookup f8 = some ⟨oc8, od8, .func (PySem.W.fnOf "_law_same" "_law_same" (defArgs s__law_same) (defBody s__law_same) (defScope s__law_same) .none kV8 dc8 pm8 an8 cd8 ct8), sl8⟩) (c8 : PySem.W.codeIn K cd8 "_law_same" = true) (k8 : PySem.W.keepIn K (.ref f8) = true)
    {f9 : Addr} {od9 an9 : Option Addr} {sl9 : Array (Option Value)} {oc9 kV9 dc9 pm9 cd9 ct9 : Value} (a9 : PySem.W.nsIn K mainGlobals "_law_sizes" = some (some (.ref f9))) (l9 : K.lookup f9 = some ⟨oc9, od9, .func (PySem.W.fnOf "_law_sizes" "_law_sizes" (defArgs s__law_sizes) (defBody s__law_sizes) (defScope s__law_sizes) .none kV9 dc9 pm9 an9 cd9 ct9), sl9⟩) (c9 : PySem.W.codeIn K cd9 "_law_sizes" = true) (k9 : PySem.W.keepIn K (.ref f9) = true)
    {f10 : Addr} {od10 an10 : Option Addr} {sl10 : Array (Option Value)} {oc10 kV10 dc10 pm10 cd10 ct10 : Value} (a10 : PySem.W.nsIn K mainGlobals "_law_full" = some (some (.ref f10))) (l10 : K.lookup f10 = some ⟨oc10, od10, .func (PySem.W.fnOf "_law_full" "_law_full" (defArgs s__law_full) (defBody s__law_full) (defScope s__law_full) .none kV10 dc10 pm10 an10 cd10 ct10), sl10⟩) (c10 : PySem.W.codeIn K cd10 "_law_full" = true) (k10 : PySem.W.keepIn K (.ref f10) = true)
    {f11 : Addr} {od11 an11 : Option Addr} {sl11 : Array (Option Value)} {oc11 kV11 dc11 pm11 cd11 ct11 : Value} (a11 : PySem.W.nsIn K mainGlobals "_law_is_full" = some (some (.ref f11))) (l11 : K.lookup f11 = some ⟨oc11, od11, .func (PySem.W.fnOf "_law_is_full" "_law_is_full" (defArgs s__law_is_full) (defBody s__law_is_full) (defScope s__law_is_full) .none kV11 dc11 pm11 an11 cd11 ct11), sl11⟩) (c11 : PySem.W.codeIn K cd11 "_law_is_full" = true) (k11 : PySem.W.keepIn K (.ref f11) = true)
    {f12 : Addr} {od12 an12 : Option Addr} {sl12 : Array (Option Value)} {oc12 kV12 dc12 pm12 cd12 ct12 : Value} (a12 : PySem.W.nsIn K mainGlobals "_law_words" = some (some (.ref f12))) (l12 : K.lookup f12 = some ⟨oc12, od12, .func (PySem.W.fnOf "_law_words" "_law_words" (defArgs s__law_words) (defBody s__law_words) (defScope s__law_words) .none kV12 dc12 pm12 an12 cd12 ct12), sl12⟩) (c12 : PySem.W.codeIn K cd12 "_law_words" = true) (k12 : PySem.W.keepIn K (.ref f12) = true)
    {f13 : Addr} {od13 an13 : Option Addr} {sl13 : Array (Option Value)} {oc13 kV13 dc13 pm13 cd13 ct13 : Value} (a13 : PySem.W.nsIn K mainGlobals "_law_put_together" = some (some (.ref f13))) (l13 : K.lookup f13 = some ⟨oc13, od13, .func (PySem.W.fnOf "_law_put_together" "_law_put_together" (defArgs s__law_put_together) (defBody s__law_put_together) (defScope s__law_put_together) .none kV13 dc13 pm13 an13 cd13 ct13), sl13⟩) (c13 : PySem.W.codeIn K cd13 "_law_put_together" = true) (k13 : PySem.W.keepIn K (.ref f13) = true)
    {f14 : Addr} {od14 an14 : Option Addr} {sl14 : Array (Option Value)} {oc14 kV14 dc14 pm14 cd14 ct14 : Value} (a14 : PySem.W.nsIn K mainGlobals "_law_least_of_all" = some (some (.ref f14))) (l14 : K.lookup f14 = some ⟨oc14, od14, .func (PySem.W.fnOf "_law_least_of_all" "_law_least_of_all" (defArgs s__law_least_of_all) (defBody s__law_least_of_all) (defScope s__law_least_of_all) .none kV14 dc14 pm14 an14 cd14 ct14), sl14⟩) (c14 : PySem.W.codeIn K cd14 "_law_least_of_all" = true) (k14 : PySem.W.keepIn K (.ref f14) = true)
    {f15 : Addr} {od15 an15 : Option Addr} {sl15 : Array (Option Value)} {oc15 kV15 dc15 pm15 cd15 ct15 : Value} (a15 : PySem.W.nsIn K mainGlobals "law" = some (some (.ref f15))) (l15 : K.lookup f15 = some ⟨oc15, od15, .func (PySem.W.fnOf "law" "law" (defArgs s_law) (defBody s_law) (defScope s_law) .none kV15 dc15 pm15 an15 cd15 ct15), sl15⟩) (c15 : PySem.W.codeIn K cd15 "law" = true) (k15 : PySem.W.keepIn K (.ref f15) = true)
    (z_all : PySem.W.nsIn K mainGlobals "all" = some none)
    (z_bool : PySem.W.nsIn K mainGlobals "bool" = some none)
    (z_int : PySem.W.nsIn K mainGlobals "int" = some none)
    (z_isinstance : PySem.W.nsIn K mainGlobals "isinstance" = some none)
    (z_len : PySem.W.nsIn K mainGlobals "len" = some none)
    (z_list : PySem.W.nsIn K mainGlobals "list" = some none)
    (z_max : PySem.W.nsIn K mainGlobals "max" = some none)
    (z_min : PySem.W.nsIn K mainGlobals "min" = some none)
    (z_range : PySem.W.nsIn K mainGlobals "range" = some none)
    (z_set : PySem.W.nsIn K mainGlobals "set" = some none)
    (z_sorted : PySem.W.nsIn K mainGlobals "sorted" = some none)
    (z_tuple : PySem.W.nsIn K mainGlobals "tuple" = some none)
    (z_zip : PySem.W.nsIn K mainGlobals "zip" = some none)
    {u_MOST_LONG : Value} (g_MOST_LONG : PySem.W.nsIn K mainGlobals "MOST_LONG" = some (some u_MOST_LONG)) (r_MOST_LONG : ∃ v : V, RelV v u_MOST_LONG ∧ ∀ H, L3.Dp K H v (.int 600))
    : ∃ fd : FuncData, (∀ (s : Shared) (v : Value), BindsTo s fd ⟨[v], []⟩ [("_law_script", v)]) ∧ ∀ base : Heap, K.In base → base.Ns mainGlobals mg → base.NoDigits → FnG l.prog w K mg base 6 fa fd ["_law_script"] (fun vs H Q _ => lowC K sp_law vs H Q) := by
  have e := hfa.symm.trans (PySem.W.mg_of X G a15)
  cases e
  have F0 := fun_mk (st := s_raised) l0 c0 k0
  have B0 := F0.binds (ps := ["number", "times"]) fun _ _ _ _ _ _ us hl => match us, hl with | [_, _], _ => rfl
  have F1 := fun_mk (st := s_need_few) l1 c1 k1
  have B1 := F1.binds (ps := ["k", "n"]) fun _ _ _ _ _ _ us hl => match us, hl with | [_, _], _ => rfl
  have F2 := fun_mk (st := s_least_words) l2 c2 k2
  have B2 := F2.binds (ps := ["k", "n"]) fun _ _ _ _ _ _ us hl => match us, hl with | [_, _], _ => rfl
  have F3 := fun_mk (st := s_least_row) l3 c3 k3
  have B3 := F3.binds (ps := ["k", "n"]) fun _ _ _ _ _ _ us hl => match us, hl with | [_, _], _ => rfl
  have F4 := fun_mk (st := s__law_power) l4 c4 k4
  have B4 := F4.binds (ps := ["_law_number", "_law_times"]) fun _ _ _ _ _ _ us hl => match us, hl with | [_, _], _ => rfl
  have F5 := fun_mk (st := s__law_hand) l5 c5 k5
  have B5 := F5.binds (ps := ["_law_script", "_law_k"]) fun _ _ _ _ _ _ us hl => match us, hl with | [_, _], _ => rfl
  have F6 := fun_mk (st := s__law_take) l6 c6 k6
  have B6 := F6.binds (ps := ["_law_hand_here", "_law_many"]) fun _ _ _ _ _ _ us hl => match us, hl with | [_, _], _ => rfl
  have F7 := fun_mk (st := s__law_pick) l7 c7 k7
  have B7 := F7.binds (ps := ["_law_hand_here", "_law_some"]) fun _ _ _ _ _ _ us hl => match us, hl with | [_, _], _ => rfl
  have F8 := fun_mk (st := s__law_same) l8 c8 k8
  have B8 := F8.binds (ps := ["_law_found", "_law_due"]) fun _ _ _ _ _ _ us hl => match us, hl with | [_, _], _ => rfl
  have F9 := fun_mk (st := s__law_sizes) l9 c9 k9
  have B9 := F9.binds (ps := ["_law_hand_here"]) fun _ _ _ _ _ _ us hl => match us, hl with | [_], _ => rfl
  have F10 := fun_mk (st := s__law_full) l10 c10 k10
  have B10 := F10.binds (ps := ["_law_hand_here", "_law_k", "_law_n"]) fun _ _ _ _ _ _ us hl => match us, hl with | [_, _, _], _ => rfl
  have F11 := fun_mk (st := s__law_is_full) l11 c11 k11
  have B11 := F11.binds (ps := ["_law_row", "_law_k", "_law_n"]) fun _ _ _ _ _ _ us hl => match us, hl with | [_, _, _], _ => rfl
  have F12 := fun_mk (st := s__law_words) l12 c12 k12
  have B12 := F12.binds (ps := ["_law_k", "_law_long"]) fun _ _ _ _ _ _ us hl => match us, hl with | [_, _], _ => rfl
  have F13 := fun_mk (st := s__law_put_together) l13 c13 k13
  have B13 := F13.binds (ps := ["_law_k", "_law_n"]) fun _ _ _ _ _ _ us hl => match us, hl with | [_, _], _ => rfl
  have F14 := fun_mk (st := s__law_least_of_all) l14 c14 k14
  have B14 := F14.binds (ps := ["_law_k", "_law_n"]) fun _ _ _ _ _ _ us hl => match us, hl with | [_, _], _ => rfl
  have F15 := fun_mk (st := s_law) l15 c15 k15
  have B15 := F15.binds (ps := ["_law_script"]) fun _ _ _ _ _ _ us hl => match us, hl with | [_], _ => rfl
  refine ⟨PySem.W.fnOf "law" "law" (defArgs s_law) (defBody s_law) (defScope s_law) .none kV15 dc15 pm15 an15 cd15 ct15, fun s v => .of_eq rfl, fun base _ _ nd => ?_⟩
  have T : Txt K mg base := { nd := nd, b_all := PySem.W.mg_none_of X G z_all, b_bool := PySem.W.mg_none_of X G z_bool, b_int := PySem.W.mg_none_of X G z_int, b_isinstance := PySem.W.mg_none_of X G z_isinstance, b_len := PySem.W.mg_none_of X G z_len, b_list := PySem.W.mg_none_of X G z_list, b_max := PySem.W.mg_none_of X G z_max, b_min := PySem.W.mg_none_of X G z_min, b_range := PySem.W.mg_none_of X G z_range, b_set := PySem.W.mg_none_of X G z_set, b_sorted := PySem.W.mg_none_of X G z_sorted, b_tuple := PySem.W.mg_none_of X G z_tuple, b_zip := PySem.W.mg_none_of X G z_zip, c_MOST_LONG := (let ⟨v, h1, h2⟩ := r_MOST_LONG; ⟨_, v, PySem.W.mg_of X G g_MOST_LONG, h1, h2⟩), f_raised := ⟨_, _, F0, PySem.W.mg_of X G a0, B0⟩, f_need_few := ⟨_, _, F1, PySem.W.mg_of X G a1, B1⟩, f_least_words := ⟨_, _, F2, PySem.W.mg_of X G a2, B2⟩, f_least_row := ⟨_, _, F3, PySem.W.mg_of X G a3, B3⟩, f__law_power := ⟨_, _, F4, PySem.W.mg_of X G a4, B4⟩, f__law_hand := ⟨_, _, F5, PySem.W.mg_of X G a5, B5⟩, f__law_take := ⟨_, _, F6, PySem.W.mg_of X G a6, B6⟩, f__law_pick := ⟨_, _, F7, PySem.W.mg_of X G a7, B7⟩, f__law_same := ⟨_, _, F8, PySem.W.mg_of X G a8, B8⟩, f__law_sizes := ⟨_, _, F9, PySem.W.mg_of X G a9, B9⟩, f__law_full := ⟨_, _, F10, PySem.W.mg_of X G a10, B10⟩, f__law_is_full := ⟨_, _, F11, PySem.W.mg_of X G a11, B11⟩, f__law_words := ⟨_, _, F12, PySem.W.mg_of X G a12, B12⟩, f__law_put_together := ⟨_, _, F13, PySem.W.mg_of X G a13, B13⟩, f__law_least_of_all := ⟨_, _, F14, PySem.W.mg_of X G a14, B14⟩, f_law := ⟨_, _, F15, PySem.W.mg_of X G a15, B15⟩ }
  exact Ok3G.fnG F15 B15 sc_law (fun ds S Q h => by simp only [sp_law] at h; first | (obtain ⟨_, rfl, _⟩ := h; rfl) | exact h.2) (fun cdv A outer s H E hgd hr => dv_law T hgd hr) rd_law
end G_k21
open PySem PySem.W PyProof.Rows
set_option maxHeartbeats 0 in
theorem PySem.Challenge.cw_windowfloor_k21_least_row_holds : PySem.Challenge.rw_windowfloor_k21_least_row.Holds := by
  w_on; o_law; k_head; (case hw => w_witness2)
  k_fill
  refine L3.walk_ofD (l := PySem.Challenge.rw_windowfloor_k21_least_row) (n := 63) (k := 6) (x := "_law_script") (sp := fun w => fun vs H Q _ => L3.lowC _ G_k21.sp_law vs H Q) rfl (by decide) rfl ⟨rfl, by decide, by decide⟩ (fun w h Y => PySem.W.kIn_of Y) ?F (fun _ _ a ns hl _ hS => L3.law_in hl hS fun _ => rfl)
  case F =>
    intro w mg fa h KX G hmg
    refine' G_k21.all_mk KX G hmg ?a0 ?l0 ?c0 ?k0 ?a1 ?l1 ?c1 ?k1 ?a2 ?l2 ?c2 ?k2 ?a3 ?l3 ?c3 ?k3 ?a4 ?l4 ?c4 ?k4 ?a5 ?l5 ?c5 ?k5 ?a6 ?l6 ?c6 ?k6 ?a7 ?l7 ?c7 ?k7 ?a8 ?l8 ?c8 ?k8 ?a9 ?l9 ?c9 ?k9 ?a10 ?l10 ?c10 ?k10 ?a11 ?l11 ?c11 ?k11 ?a12 ?l12 ?c12 ?k12 ?a13 ?l13 ?c13 ?k13 ?a14 ?l14 ?c14 ?k14 ?a15 ?l15 ?c15 ?k15 ?z_all ?z_bool ?z_int ?z_isinstance ?z_len ?z_list ?z_max ?z_min ?z_range ?z_set ?z_sorted ?z_tuple ?z_zip ?g_MOST_LONG ?r_MOST_LONG
    (case a0 => k_is); (case l0 => k_is); (case c0 => k_is); (case k0 => k_is); (case a1 => k_is); (case l1 => k_is); (case c1 => k_is); (case k1 => k_is); (case a2 => k_is); (case l2 => k_is); (case c2 => k_is); (case k2 => k_is); (case a3 => k_is); (case l3 => k_is); (case c3 => k_is); (case k3 => k_is); (case a4 => k_is); (case l4 => k_is); (case c4 => k_is); (case k4 => k_is); (case a5 => k_is); (case l5 => k_is); (case c5 => k_is); (case k5 => k_is); (case a6 => k_is); (case l6 => k_is); (case c6 => k_is); (case k6 => k_is); (case a7 => k_is); (case l7 => k_is); (case c7 => k_is); (case k7 => k_is); (case a8 => k_is); (case l8 => k_is); (case c8 => k_is); (case k8 => k_is); (case a9 => k_is); (case l9 => k_is); (case c9 => k_is); (case k9 => k_is); (case a10 => k_is); (case l10 => k_is); (case c10 => k_is); (case k10 => k_is); (case a11 => k_is); (case l11 => k_is); (case c11 => k_is); (case k11 => k_is); (case a12 => k_is); (case l12 => k_is); (case c12 => k_is); (case k12 => k_is); (case a13 => k_is); (case l13 => k_is); (case c13 => k_is); (case k13 => k_is); (case a14 => k_is); (case l14 => k_is); (case c14 => k_is); (case k14 => k_is); (case a15 => k_is); (case l15 => k_is); (case c15 => k_is); (case k15 => k_is); (case z_all => k_is); (case z_bool => k_is); (case z_int => k_is); (case z_isinstance => k_is); (case z_len => k_is); (case z_list => k_is); (case z_max => k_is); (case z_min => k_is); (case z_range => k_is); (case z_set => k_is); (case z_sorted => k_is); (case z_tuple => k_is); (case z_zip => k_is); (case g_MOST_LONG => k_is); (case r_MOST_LONG => first | exact ⟨L2.V.int _, ⟨_, rfl⟩, fun _ => .int _⟩ | exact ⟨L2.V.str _, ⟨_, rfl⟩, fun _ => .str _⟩)
